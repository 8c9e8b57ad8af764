import PyProof.Rows.All
import Wide.All
import OpenK.AllK
import Wide.FinOn
import KE.KStateDown
import HandS.ForMost
import HandS.ForExc
import HandS.Words
import HandS.WordsExc
import HandS.Defaults
import HandS.Property
import HandS.ClsMeth
import HandS.Head0
import HandS.Head1
import HandS.Head2
import HandS.HeadEnd
import HandS.HeadHook1
import HandS.HeadHook2
import HandS.HeadNt
import PySem.Challenge.RW_hopkeep_k98_alike_is_an_order_of_equals
import KE.GoesEnum
import KE.GoesZip
import PyProof.ReprRoads
import HandS.Codes
import HandS.Strs
import HandS.SetFor
import KE.KeyNested
import KE.KDictDisplayH
import HandS.Evl
import HandS.Walk
import HandS.Star
import HandS.MakeKwOnly
import HandS.TupMul
import HandS.IsInst
import HandS.FStr
import HandS.Style
import HandS.Wide
import HandS.Conv
import HandS.More
import HandS.Text
import HandS.StrMore
import PyProof.MaxThree
import KE.KDictZip
import KE.KDictItemsList
import HandS.DictTup
import HandS.Nested
import KE.KSuper
set_option Elab.async false
set_option linter.all false
set_option maxRecDepth 100000
set_option maxHeartbeats 0
namespace He6
open PySem PySem.W PySem.Calls PyProof.Rows He L2
/-- C.f is a property: what PropOf wants -/
def propB (K : Frag) (C : Addr) (f : PySem.Str) : Bool := eqO (findIn K (.ref C) f) (some (some (.ref (ma K C f)))) && (eqO (specialIn K (.ref (ma K C f)) "__get__") (some (some (.builtin "property.__get__"))) && (decide (takesIn K (.ref (ma K C f)) = some true) && (match recIn K (ma K C f) "property" with
  | some (.ref _ :: _) => true
  | _ => false)))
theorem propB_ok {K : Frag} {C : Addr} {f : PySem.Str} (h : propB K C f = true) : PropOf K C f (ma K C f) (He5.wf K C "property" f) := by
  obtain ⟨h1, h⟩ := ba h
  obtain ⟨h2, h⟩ := ba h
  obtain ⟨h3, h4⟩ := ba h
  refine ⟨eqO_ok h1, eqO_ok h2, of_decide_eq_true h3, ?_⟩
  unfold He5.wf
  split at h4
  · rename_i g r e
    exact ⟨r, by rw [e]⟩
  · cases h4
def readsB (K : Frag) (C : Addr) : Bool := readsIn K C (.type "type") && eqO (specialIn K (.ref C) "__getattribute__") (some (some (.builtin "type.__getattribute__")))
theorem readsB_ok {K : Frag} {C : Addr} (h : readsB K C = true) : ClX.CRead K C (.type "type") := by
  obtain ⟨h1, h2⟩ := ba h
  exact ⟨h1, eqO_ok h2⟩
/-! ### the Hook: facts, defs, defs that close over __class__, one more Bool -/
def fnC (K : Frag) (a : Addr) : He5.FnW := (He5.fnA K a).map fun z => (z.1, z.2.1, z.2.2.1, z.2.2.2.1, z.2.2.2.2.1, z.2.2.2.2.2.1, [], z.2.2.2.2.2.2.2)
/-! what the names reach: level by level, only what is new is opened; code objects are not opened -/
def kidsZ (o : Obj) : List Addr := match o.data with
  | .fields vs => (match vs.toList with
    | _ :: .str _ _ :: _ => []
    | l => l.flatMap refV)
  | .cls cd => cd.ns :: cd.mro.flatMap refV
  | .seq its _ => its.toList.flatMap refV
  | .dict es _ => es.toList.flatMap fun e => refV e.val
  | .func fd => refV fd.code ++ (refV fd.kwdefaults ++ (refV fd.defaults ++ fd.closure.map (·.2)))
  | .cell (some v) => refV v
  | _ => []
def newZ (seen : List Addr) : List Addr → List Addr
  | [] => []
  | a :: as => match seen.elem a with
    | true => newZ seen as
    | false => a :: newZ (a :: seen) as
def goZ (g : Addr → Option Obj) : Nat → List Addr → List Addr → List Addr
  | 0, seen, _ => seen
  | n + 1, seen, fr => (fun nw => goZ g n (seen ++ nw) nw) (newZ seen (fr.flatMap fun a => match g a with
    | some o => kidsZ o
    | none => []))
def asZ (g : Addr → Option Obj) (n : Nat) : List Addr := goZ g n [mainGlobals, cStatics] [mainGlobals]
def obsZ (fa : List Fa) (fn cl : List He5.DefA) (ex : Frag → Bool) (K : Frag) : He.AlD := (((ex K && fa.all fun f => f.ok K) && fn.all fun d => d.ok K) && cl.all fun d => d.ok K, (fn.map fun d => He5.fnA K (d.at_ K)) ++ cl.map fun d => fnC K (d.at_ K))
def valZ (fn cl : List He5.DefA) : He.AlD := (true, fn.map He5.DefA.val ++ cl.map He5.DefA.val)
def SaysZ (fa : List Fa) (fn cl : List He5.DefA) (ex : Frag → Bool) (K : Frag) : Prop := obsZ fa fn cl ex K = valZ fn cl
def obsZG (n : Nat) (fa : List Fa) (fn cl : List He5.DefA) (ex : Frag → Bool) (g : Addr → Option Obj) : He.AlD := obsZ fa fn cl ex (frG g (asZ g n))
def hookZ (n : Nat) (fa : List Fa) (fn cl : List He5.DefA) (ex : Frag → Bool) : PySem.W.Hook where
  α := He.AlD
  obs := fun s => obsZG n fa fn cl ex s.heap.get?
  val := fun _ => valZ fn cl
  says := fun _ h => ∃ K : Frag, K.In h ∧ SaysZ fa fn cl ex K
  of := fun _ _ e => ⟨_, frG_in, e⟩
  keeps := fun _ _ _ ⟨K, hK, c⟩ k => ⟨K, Frag.In.keeps hK k, c⟩
theorem obsZG_eq {n : Nat} {fa : List Fa} {fn cl : List He5.DefA} {ex : Frag → Bool} {g : Addr → Option Obj} {s : Shared} (h : ∀ a, g a = s.heap.get? a) : obsZG n fa fn cl ex g = (hookZ n fa fn cl ex).obs s := by
  have e : g = s.heap.get? := funext h
  rw [e] <;> rfl
/-- a def that closes over one cell -/
structure FunC (K : Frag) (x qual : PySem.Str) (params : Arguments) (body : List Stmt) (scope : Scope) (dvs : List V) (kws : List (PySem.Str × V)) (f : Addr) : Prop where
  ex : ∃ (oc : Value) (od : Option Addr) (clo : List (PySem.Str × Addr)) (dV kV doc pm : Value) (an : Option Addr) (cdv ct : Value) (osl : Array (Option Value)),
    K.lookup f = some ⟨oc, od, .func (PySem.W.fnX x qual params body scope clo dV kV doc pm an cdv ct), osl⟩ ∧ PySem.W.codeIn K cdv qual = true ∧ DflV K dV dvs ∧ KwdV K kV kws
  kp : PySem.W.keepIn K (.ref f) = true
theorem funC_of {K : Frag} {d : He5.DefA} (e : fnC K (d.at_ K) = d.val) (c : d.ok K = true) : FunC K d.name d.qual d.params d.body d.scope (d.dvs K) (d.kws K) (d.at_ K) := by
  obtain ⟨kp, c2⟩ := ba c
  unfold fnC He5.fnA at e
  cases q : K.lookup (d.at_ K) with
  | none =>
    rw [q] at c2
    cases c2
  | some o =>
    obtain ⟨oc, od, dt, osl⟩ := o
    rw [q] at c2 e
    cases dt with
    | func fd =>
      obtain ⟨n1, n2, n3, n4, n5, n6, n7, n8, n9, n10, n11, n12, n13, n14, n15⟩ := fd
      have e2 : (some (n1, n2, n3, n4, n5, n6, [], n15) : He5.FnW) = some (d.name, d.qual, d.params, .stmts d.body, d.scope, mainGlobals, [], builtinsNs) := e
      simp only [Option.some.injEq, Prod.mk.injEq] at e2
      obtain ⟨h1, h2, h3, h4, h5, h6, h7, h8⟩ := e2
      subst h1 h2 h3 h4 h5 h6 h8
      have c3 : (codeIn K n13 d.qual && (He.dflB K n8 (d.dvs K) && He.kwdB K n9 (d.kws K))) = true := c2
      obtain ⟨k1, k2⟩ := ba c3
      obtain ⟨k3, k4⟩ := ba k2
      exact ⟨⟨oc, od, n7, n8, n9, n10, n11, n12, n13, n14, osl, q, k1, He.dflB_ok k3, He.kwdB_ok k4⟩, kp⟩
    | _ => cases c2
/-- what super() wants of the class at D, its def at f, the next __init__ at f2, the text's file -/
def clB (K : Frag) (f D f2 : Addr) (file : PySem.Str) : Bool := (match K.lookup f with
  | some ⟨_, _, .func fd, _⟩ => (match fd.closure with
    | [(x, cc)] => decide (x = "__class__") && (match K.lookup cc with
      | some ⟨_, _, .cell (some (.ref a)), _⟩ => decide (a = D)
      | _ => false)
    | _ => false) && (match fd.code with
    | .ref c => (match K.lookup c with
      | some ⟨_, _, .fields vs, _⟩ => (match vs.toList with
        | _ :: _ :: .str n _ :: _ => decide (n = file)
        | _ => false)
      | _ => false)
    | _ => false)
  | _ => false) && ((match clsIn K D with
    | some cd => eqO (alongIn K "__init__" ((cd.mro.dropWhile (· != .ref D)).drop 1)) (some (some (.ref f2)))
    | none => false) && (decide (mroIn K D (.ref D) = some true) && (eqO (nsIn K cStatics "thirdparty.any") (some none) && (decide (typeIn K (.ref f2) = some (.type "function")) && fnIn K f2))))
section
variable {fa : List Fa} {fn cl : List He5.DefA} {ex : Frag → Bool} {K : Frag}
theorem SaysZ.b (c : SaysZ fa fn cl ex K) : (((ex K && fa.all fun f => f.ok K) && fn.all fun d => d.ok K) && cl.all fun d => d.ok K) = true := congrArg (fun z : He.AlD => z.1) c
theorem SaysZ.more (c : SaysZ fa fn cl ex K) : ex K = true := (ba (ba (ba c.b).1).1).1
theorem SaysZ.fact (c : SaysZ fa fn cl ex K) {f : Fa} (h : f ∈ fa) : f.ok K = true := List.all_eq_true.mp (ba (ba (ba c.b).1).1).2 f h
theorem SaysZ.lists (c : SaysZ fa fn cl ex K) : fn.map (fun d => He5.fnA K (d.at_ K)) = fn.map He5.DefA.val ∧ cl.map (fun d => fnC K (d.at_ K)) = cl.map He5.DefA.val :=
  List.append_inj (congrArg (fun z : He.AlD => z.2) c) (by rw [List.length_map, List.length_map])
theorem SaysZ.def_ (c : SaysZ fa fn cl ex K) (i : Nat) {d : He5.DefA} (h : fn[i]? = some d := by rfl) : ∃ fd, FunD K d.name d.qual d.params d.body d.scope (d.dvs K) (d.kws K) (d.at_ K) fd := by
  have e2 : (fn.map fun d => He5.fnA K (d.at_ K))[i]? = (fn.map He5.DefA.val)[i]? := by rw [c.lists.1]
  rw [List.getElem?_map, List.getElem?_map, h] at e2
  exact He5.DefA.funD (Option.some.inj e2) (List.all_eq_true.mp (ba (ba c.b).1).2 d (List.mem_of_getElem? h))
theorem SaysZ.cdef (c : SaysZ fa fn cl ex K) (i : Nat) {d : He5.DefA} (h : cl[i]? = some d := by rfl) : FunC K d.name d.qual d.params d.body d.scope (d.dvs K) (d.kws K) (d.at_ K) := by
  have e2 : (cl.map fun d => fnC K (d.at_ K))[i]? = (cl.map He5.DefA.val)[i]? := by rw [c.lists.2]
  rw [List.getElem?_map, List.getElem?_map, h] at e2
  exact funC_of (Option.some.inj e2) (List.all_eq_true.mp (ba c.b).2 d (List.mem_of_getElem? h))
end
end He6
namespace K98
open PySem PySem.Spec PyProof.Rows L2 He6
/-! ### the text by places -/
def topS (i : Nat) : Stmt := PySem.Challenge.pw_hopkeep_k98_alike_is_an_order_of_equals.main.body.getD i (.Pass ⟨0, 0, 0, 0⟩)
abbrev s_consists_of : Stmt := topS 9
abbrev s_list_elements : Stmt := topS 10
abbrev s_read_number : Stmt := topS 11
abbrev s_read_numbered : Stmt := topS 16
abbrev s_least_numbers : Stmt := topS 17
abbrev s_Directives__init : Stmt := inClass (topS 18) 0
abbrev s_Directives_read : Stmt := inClass (topS 18) 1
abbrev s_Directives_of : Stmt := inClass (topS 18) 2
abbrev s_is_allowed : Stmt := topS 22
abbrev s_is_allowed_or_none : Stmt := topS 23
abbrev s_Kind__init : Stmt := inClass (topS 24) 0
abbrev s_Kind_keep_field : Stmt := inClass (topS 24) 1
abbrev s_kind_directives : Stmt := topS 25
abbrev s_tells_lifetime : Stmt := topS 26
abbrev s_serve_limit : Stmt := topS 27
abbrev s_Clock__init : Stmt := inClass (topS 32) 0
abbrev s_Clock_span : Stmt := inClass (topS 32) 1
abbrev s_Clock_reading : Stmt := inClass (topS 32) 2
abbrev s_Setting__init : Stmt := inClass (topS 33) 0
abbrev s_Setting_hops : Stmt := inClass (topS 33) 1
abbrev s_Setting_calm : Stmt := inClass (topS 33) 2
abbrev s_Setting_part : Stmt := inClass (topS 33) 3
abbrev s_limits : Stmt := topS 34
abbrev s_keeps_kind : Stmt := topS 36
abbrev s_checking_hops : Stmt := topS 37
abbrev s_sound : Stmt := topS 38
abbrev s_need_calm : Stmt := topS 40
abbrev s_calm_chain : Stmt := topS 41
abbrev s_is_count : Stmt := topS 42
abbrev s_is_entry : Stmt := topS 43
abbrev s_is_state : Stmt := topS 44
abbrev s_empty_state : Stmt := topS 45
abbrev s_waited : Stmt := topS 46
abbrev s_after_wait : Stmt := topS 47
abbrev s_after_change : Stmt := topS 48
abbrev s_after_stop : Stmt := topS 49
abbrev s_after_ask : Stmt := topS 50
abbrev s_stepped : Stmt := topS 51
abbrev s_with_ranks : Stmt := topS 52
abbrev s_joined_state : Stmt := topS 53
abbrev s_common_hops : Stmt := topS 55
abbrev s_common_events : Stmt := topS 56
abbrev s_told_alike : Stmt := topS 57
abbrev s_step_both : Stmt := topS 58
abbrev s_empty_pair : Stmt := topS 59
abbrev s_story_to : Stmt := topS 60
abbrev s_compare : Stmt := topS 61
abbrev s_is_pair_of_states : Stmt := topS 62
abbrev s_is_alike : Stmt := topS 63
abbrev s_number_or_zero : Stmt := topS 67
abbrev s_Make__init : Stmt := inClass (topS 68) 1
abbrev s_Make_all_settings : Stmt := inClass (topS 68) 2
abbrev s_Make__eq : Stmt := inClass (topS 68) 5
abbrev s_Make_lifetime : Stmt := inClass (topS 68) 6
abbrev s_Make_keeps : Stmt := inClass (topS 68) 7
abbrev s_Make_allowance : Stmt := inClass (topS 68) 8
abbrev s_Make_error_allowance : Stmt := inClass (topS 68) 9
abbrev s_Make_initial_age : Stmt := inClass (topS 68) 10
abbrev s_StrictMake_allowance : Stmt := inClass (topS 69) 2
abbrev s_StrictMake_error_allowance : Stmt := inClass (topS 69) 3
abbrev s_law_bag : Stmt := topS 72
abbrev s_law_take : Stmt := topS 73
abbrev s_law_profile : Stmt := topS 74
abbrev s_law_other : Stmt := topS 75
abbrev s_law_make : Stmt := topS 76
abbrev s_law_setting : Stmt := topS 77
abbrev s_law_asked : Stmt := topS 78
abbrev s_law_older : Stmt := topS 79
abbrev s_law_is_step : Stmt := topS 80
abbrev s_law_tellings : Stmt := topS 81
abbrev s_law_parted : Stmt := topS 82
abbrev s_law_is_verdict : Stmt := topS 83
abbrev s_law_like : Stmt := topS 84
abbrev s_law_both_ways : Stmt := topS 85
abbrev s_law_through : Stmt := topS 86
abbrev s_law : Stmt := topS 87
/-! ### where each def stands -/
def d_consists_of : He5.DefA := ⟨fun K => He.ga K "consists_of", "consists_of", "consists_of", defArgs s_consists_of, defBody s_consists_of, defScope s_consists_of, [], []⟩
def d_list_elements : He5.DefA := ⟨fun K => He.ga K "list_elements", "list_elements", "list_elements", defArgs s_list_elements, defBody s_list_elements, defScope s_list_elements, [], []⟩
def d_read_number : He5.DefA := ⟨fun K => He.ga K "read_number", "read_number", "read_number", defArgs s_read_number, defBody s_read_number, defScope s_read_number, [], []⟩
def d_read_numbered : He5.DefA := ⟨fun K => He.ga K "read_numbered", "read_numbered", "read_numbered", defArgs s_read_numbered, defBody s_read_numbered, defScope s_read_numbered, [], []⟩
def d_least_numbers : He5.DefA := ⟨fun K => He.ga K "least_numbers", "least_numbers", "least_numbers", defArgs s_least_numbers, defBody s_least_numbers, defScope s_least_numbers, [], []⟩
def d_Directives__init : He5.DefA := ⟨fun K => He.ma K (He.ga K "Directives") "__init__", "__init__", "Directives.__init__", defArgs s_Directives__init, defBody s_Directives__init, defScope s_Directives__init, [], []⟩
def d_Directives_read : He5.DefA := ⟨fun K => He5.wf K (He.ga K "Directives") "staticmethod" "read", "read", "Directives.read", defArgs s_Directives_read, defBody s_Directives_read, defScope s_Directives_read, [], []⟩
def d_Directives_of : He5.DefA := ⟨fun K => He5.wf K (He.ga K "Directives") "classmethod" "of", "of", "Directives.of", defArgs s_Directives_of, defBody s_Directives_of, defScope s_Directives_of, [], []⟩
def d_is_allowed : He5.DefA := ⟨fun K => He.ga K "is_allowed", "is_allowed", "is_allowed", defArgs s_is_allowed, defBody s_is_allowed, defScope s_is_allowed, [], []⟩
def d_is_allowed_or_none : He5.DefA := ⟨fun K => He.ga K "is_allowed_or_none", "is_allowed_or_none", "is_allowed_or_none", defArgs s_is_allowed_or_none, defBody s_is_allowed_or_none, defScope s_is_allowed_or_none, [], []⟩
def d_Kind__init : He5.DefA := ⟨fun K => He.ma K (He.ga K "Kind") "__init__", "__init__", "Kind.__init__", defArgs s_Kind__init, defBody s_Kind__init, defScope s_Kind__init, [], [("shared_lasts", .non), ("late", .int (0)), ("on_error", .int (0)), ("strict", .bl false), ("check", .bl false), ("own", .bl false), ("never", .bl false), ("mark", .str "strong"), ("dated", .bl false), ("margin", .int (0))]⟩
def d_Kind_keep_field : He5.DefA := ⟨fun K => He.ma K (He.ga K "Kind") "keep_field", "keep_field", "Kind.keep_field", defArgs s_Kind_keep_field, defBody s_Kind_keep_field, defScope s_Kind_keep_field, [], []⟩
def d_kind_directives : He5.DefA := ⟨fun K => He.ga K "kind_directives", "kind_directives", "kind_directives", defArgs s_kind_directives, defBody s_kind_directives, defScope s_kind_directives, [], []⟩
def d_tells_lifetime : He5.DefA := ⟨fun K => He.ga K "tells_lifetime", "tells_lifetime", "tells_lifetime", defArgs s_tells_lifetime, defBody s_tells_lifetime, defScope s_tells_lifetime, [], []⟩
def d_serve_limit : He5.DefA := ⟨fun K => He.ga K "serve_limit", "serve_limit", "serve_limit", defArgs s_serve_limit, defBody s_serve_limit, defScope s_serve_limit, [], [("on_error", .bl false)]⟩
def d_Clock__init : He5.DefA := ⟨fun K => He.ma K (He.ga K "Clock") "__init__", "__init__", "Clock.__init__", defArgs s_Clock__init, defBody s_Clock__init, defScope s_Clock__init, [.int (0), .int (0)], []⟩
def d_Clock_span : He5.DefA := ⟨fun K => He5.wf K (He.ga K "Clock") "property" "span", "span", "Clock.span", defArgs s_Clock_span, defBody s_Clock_span, defScope s_Clock_span, [], []⟩
def d_Clock_reading : He5.DefA := ⟨fun K => He.ma K (He.ga K "Clock") "reading", "reading", "Clock.reading", defArgs s_Clock_reading, defBody s_Clock_reading, defScope s_Clock_reading, [], []⟩
def d_Setting__init : He5.DefA := ⟨fun K => He.ma K (He.ga K "Setting") "__init__", "__init__", "Setting.__init__", defArgs s_Setting__init, defBody s_Setting__init, defScope s_Setting__init, [], [("clocks", .non), ("delays", .non), ("loses", .bl false)]⟩
def d_Setting_hops : He5.DefA := ⟨fun K => He5.wf K (He.ga K "Setting") "property" "hops", "hops", "Setting.hops", defArgs s_Setting_hops, defBody s_Setting_hops, defScope s_Setting_hops, [], []⟩
def d_Setting_calm : He5.DefA := ⟨fun K => He5.wf K (He.ga K "Setting") "property" "calm", "calm", "Setting.calm", defArgs s_Setting_calm, defBody s_Setting_calm, defScope s_Setting_calm, [], []⟩
def d_Setting_part : He5.DefA := ⟨fun K => He.ma K (He.ga K "Setting") "part", "part", "Setting.part", defArgs s_Setting_part, defBody s_Setting_part, defScope s_Setting_part, [], []⟩
def d_limits : He5.DefA := ⟨fun K => He.ga K "limits", "limits", "limits", defArgs s_limits, defBody s_limits, defScope s_limits, [], []⟩
def d_keeps_kind : He5.DefA := ⟨fun K => He.ga K "keeps_kind", "keeps_kind", "keeps_kind", defArgs s_keeps_kind, defBody s_keeps_kind, defScope s_keeps_kind, [], []⟩
def d_checking_hops : He5.DefA := ⟨fun K => He.ga K "checking_hops", "checking_hops", "checking_hops", defArgs s_checking_hops, defBody s_checking_hops, defScope s_checking_hops, [], []⟩
def d_sound : He5.DefA := ⟨fun K => He.ga K "sound", "sound", "sound", defArgs s_sound, defBody s_sound, defScope s_sound, [], []⟩
def d_need_calm : He5.DefA := ⟨fun K => He.ga K "need_calm", "need_calm", "need_calm", defArgs s_need_calm, defBody s_need_calm, defScope s_need_calm, [], []⟩
def d_calm_chain : He5.DefA := ⟨fun K => He.ga K "calm_chain", "calm_chain", "calm_chain", defArgs s_calm_chain, defBody s_calm_chain, defScope s_calm_chain, [], []⟩
def d_is_count : He5.DefA := ⟨fun K => He.ga K "is_count", "is_count", "is_count", defArgs s_is_count, defBody s_is_count, defScope s_is_count, [], []⟩
def d_is_entry : He5.DefA := ⟨fun K => He.ga K "is_entry", "is_entry", "is_entry", defArgs s_is_entry, defBody s_is_entry, defScope s_is_entry, [], []⟩
def d_is_state : He5.DefA := ⟨fun K => He.ga K "is_state", "is_state", "is_state", defArgs s_is_state, defBody s_is_state, defScope s_is_state, [], []⟩
def d_empty_state : He5.DefA := ⟨fun K => He.ga K "empty_state", "empty_state", "empty_state", defArgs s_empty_state, defBody s_empty_state, defScope s_empty_state, [], []⟩
def d_waited : He5.DefA := ⟨fun K => He.ga K "waited", "waited", "waited", defArgs s_waited, defBody s_waited, defScope s_waited, [], []⟩
def d_after_wait : He5.DefA := ⟨fun K => He.ga K "after_wait", "after_wait", "after_wait", defArgs s_after_wait, defBody s_after_wait, defScope s_after_wait, [], []⟩
def d_after_change : He5.DefA := ⟨fun K => He.ga K "after_change", "after_change", "after_change", defArgs s_after_change, defBody s_after_change, defScope s_after_change, [], []⟩
def d_after_stop : He5.DefA := ⟨fun K => He.ga K "after_stop", "after_stop", "after_stop", defArgs s_after_stop, defBody s_after_stop, defScope s_after_stop, [], []⟩
def d_after_ask : He5.DefA := ⟨fun K => He.ga K "after_ask", "after_ask", "after_ask", defArgs s_after_ask, defBody s_after_ask, defScope s_after_ask, [], []⟩
def d_stepped : He5.DefA := ⟨fun K => He.ga K "stepped", "stepped", "stepped", defArgs s_stepped, defBody s_stepped, defScope s_stepped, [], []⟩
def d_with_ranks : He5.DefA := ⟨fun K => He.ga K "with_ranks", "with_ranks", "with_ranks", defArgs s_with_ranks, defBody s_with_ranks, defScope s_with_ranks, [], []⟩
def d_joined_state : He5.DefA := ⟨fun K => He.ga K "joined_state", "joined_state", "joined_state", defArgs s_joined_state, defBody s_joined_state, defScope s_joined_state, [], []⟩
def d_common_hops : He5.DefA := ⟨fun K => He.ga K "common_hops", "common_hops", "common_hops", defArgs s_common_hops, defBody s_common_hops, defScope s_common_hops, [], []⟩
def d_common_events : He5.DefA := ⟨fun K => He.ga K "common_events", "common_events", "common_events", defArgs s_common_events, defBody s_common_events, defScope s_common_events, [], []⟩
def d_told_alike : He5.DefA := ⟨fun K => He.ga K "told_alike", "told_alike", "told_alike", defArgs s_told_alike, defBody s_told_alike, defScope s_told_alike, [], []⟩
def d_step_both : He5.DefA := ⟨fun K => He.ga K "step_both", "step_both", "step_both", defArgs s_step_both, defBody s_step_both, defScope s_step_both, [], []⟩
def d_empty_pair : He5.DefA := ⟨fun K => He.ga K "empty_pair", "empty_pair", "empty_pair", defArgs s_empty_pair, defBody s_empty_pair, defScope s_empty_pair, [], []⟩
def d_story_to : He5.DefA := ⟨fun K => He.ga K "story_to", "story_to", "story_to", defArgs s_story_to, defBody s_story_to, defScope s_story_to, [], []⟩
def d_compare : He5.DefA := ⟨fun K => He.ga K "compare", "compare", "compare", defArgs s_compare, defBody s_compare, defScope s_compare, [], [("ages", .bl true)]⟩
def d_is_pair_of_states : He5.DefA := ⟨fun K => He.ga K "is_pair_of_states", "is_pair_of_states", "is_pair_of_states", defArgs s_is_pair_of_states, defBody s_is_pair_of_states, defScope s_is_pair_of_states, [], []⟩
def d_is_alike : He5.DefA := ⟨fun K => He.ga K "is_alike", "is_alike", "is_alike", defArgs s_is_alike, defBody s_is_alike, defScope s_is_alike, [], [("ages", .bl true)]⟩
def d_number_or_zero : He5.DefA := ⟨fun K => He.ga K "number_or_zero", "number_or_zero", "number_or_zero", defArgs s_number_or_zero, defBody s_number_or_zero, defScope s_number_or_zero, [], []⟩
def d_Make__init : He5.DefA := ⟨fun K => He.ma K (He.ga K "Make") "__init__", "__init__", "Make.__init__", defArgs s_Make__init, defBody s_Make__init, defScope s_Make__init, [], [("shared", .bl true), ("grace", .int (0)), ("error_grace", .int (0)), ("tells", .bl true), ("dates", .bl false), ("checks", .bl true), ("share", .int (0)), ("cap", .int (0)), ("durable", .bl false), ("room", .int (8))]⟩
def d_Make_all_settings : He5.DefA := ⟨fun K => He.ma K (He.ga K "Make") "all_settings", "all_settings", "Make.all_settings", defArgs s_Make_all_settings, defBody s_Make_all_settings, defScope s_Make_all_settings, [], []⟩
def d_Make__eq : He5.DefA := ⟨fun K => He.ma K (He.ga K "Make") "__eq__", "__eq__", "Make.__eq__", defArgs s_Make__eq, defBody s_Make__eq, defScope s_Make__eq, [], []⟩
def d_Make_lifetime : He5.DefA := ⟨fun K => He.ma K (He.ga K "Make") "lifetime", "lifetime", "Make.lifetime", defArgs s_Make_lifetime, defBody s_Make_lifetime, defScope s_Make_lifetime, [], []⟩
def d_Make_keeps : He5.DefA := ⟨fun K => He.ma K (He.ga K "Make") "keeps", "keeps", "Make.keeps", defArgs s_Make_keeps, defBody s_Make_keeps, defScope s_Make_keeps, [], []⟩
def d_Make_allowance : He5.DefA := ⟨fun K => He.ma K (He.ga K "Make") "allowance", "allowance", "Make.allowance", defArgs s_Make_allowance, defBody s_Make_allowance, defScope s_Make_allowance, [], []⟩
def d_Make_error_allowance : He5.DefA := ⟨fun K => He.ma K (He.ga K "Make") "error_allowance", "error_allowance", "Make.error_allowance", defArgs s_Make_error_allowance, defBody s_Make_error_allowance, defScope s_Make_error_allowance, [], []⟩
def d_Make_initial_age : He5.DefA := ⟨fun K => He.ma K (He.ga K "Make") "initial_age", "initial_age", "Make.initial_age", defArgs s_Make_initial_age, defBody s_Make_initial_age, defScope s_Make_initial_age, [], []⟩
def d_StrictMake_allowance : He5.DefA := ⟨fun K => He.ma K (He.ga K "StrictMake") "allowance", "allowance", "StrictMake.allowance", defArgs s_StrictMake_allowance, defBody s_StrictMake_allowance, defScope s_StrictMake_allowance, [], []⟩
def d_StrictMake_error_allowance : He5.DefA := ⟨fun K => He.ma K (He.ga K "StrictMake") "error_allowance", "error_allowance", "StrictMake.error_allowance", defArgs s_StrictMake_error_allowance, defBody s_StrictMake_error_allowance, defScope s_StrictMake_error_allowance, [], []⟩
def d_law_bag : He5.DefA := ⟨fun K => He.ga K "_law_bag", "_law_bag", "_law_bag", defArgs s_law_bag, defBody s_law_bag, defScope s_law_bag, [], []⟩
def d_law_take : He5.DefA := ⟨fun K => He.ga K "_law_take", "_law_take", "_law_take", defArgs s_law_take, defBody s_law_take, defScope s_law_take, [], []⟩
def d_law_profile : He5.DefA := ⟨fun K => He.ga K "_law_profile", "_law_profile", "_law_profile", defArgs s_law_profile, defBody s_law_profile, defScope s_law_profile, [], []⟩
def d_law_other : He5.DefA := ⟨fun K => He.ga K "_law_other", "_law_other", "_law_other", defArgs s_law_other, defBody s_law_other, defScope s_law_other, [], []⟩
def d_law_make : He5.DefA := ⟨fun K => He.ga K "_law_make", "_law_make", "_law_make", defArgs s_law_make, defBody s_law_make, defScope s_law_make, [], []⟩
def d_law_setting : He5.DefA := ⟨fun K => He.ga K "_law_setting", "_law_setting", "_law_setting", defArgs s_law_setting, defBody s_law_setting, defScope s_law_setting, [], []⟩
def d_law_asked : He5.DefA := ⟨fun K => He.ga K "_law_asked", "_law_asked", "_law_asked", defArgs s_law_asked, defBody s_law_asked, defScope s_law_asked, [], []⟩
def d_law_older : He5.DefA := ⟨fun K => He.ga K "_law_older", "_law_older", "_law_older", defArgs s_law_older, defBody s_law_older, defScope s_law_older, [], []⟩
def d_law_is_step : He5.DefA := ⟨fun K => He.ga K "_law_is_step", "_law_is_step", "_law_is_step", defArgs s_law_is_step, defBody s_law_is_step, defScope s_law_is_step, [], []⟩
def d_law_tellings : He5.DefA := ⟨fun K => He.ga K "_law_tellings", "_law_tellings", "_law_tellings", defArgs s_law_tellings, defBody s_law_tellings, defScope s_law_tellings, [], []⟩
def d_law_parted : He5.DefA := ⟨fun K => He.ga K "_law_parted", "_law_parted", "_law_parted", defArgs s_law_parted, defBody s_law_parted, defScope s_law_parted, [], []⟩
def d_law_is_verdict : He5.DefA := ⟨fun K => He.ga K "_law_is_verdict", "_law_is_verdict", "_law_is_verdict", defArgs s_law_is_verdict, defBody s_law_is_verdict, defScope s_law_is_verdict, [], []⟩
def d_law_like : He5.DefA := ⟨fun K => He.ga K "_law_like", "_law_like", "_law_like", defArgs s_law_like, defBody s_law_like, defScope s_law_like, [], []⟩
def d_law_both_ways : He5.DefA := ⟨fun K => He.ga K "_law_both_ways", "_law_both_ways", "_law_both_ways", defArgs s_law_both_ways, defBody s_law_both_ways, defScope s_law_both_ways, [], []⟩
def d_law_through : He5.DefA := ⟨fun K => He.ga K "_law_through", "_law_through", "_law_through", defArgs s_law_through, defBody s_law_through, defScope s_law_through, [], []⟩
def d_law : He5.DefA := ⟨fun K => He.ga K "law", "law", "law", defArgs s_law, defBody s_law, defScope s_law, [], []⟩
abbrev s_OwnMake__init : Stmt := inClass (topS 70) 1
def d_OwnMake__init : He5.DefA := ⟨fun K => He.ma K (He.ga K "OwnMake") "__init__", "__init__", "OwnMake.__init__", defArgs s_OwnMake__init, defBody s_OwnMake__init, defScope s_OwnMake__init, [], [("shared", .bl false), ("grace", .int (0)), ("error_grace", .int (0)), ("tells", .bl true), ("dates", .bl false), ("checks", .bl true), ("share", .int (0)), ("cap", .int (0)), ("durable", .bl false), ("room", .int (8))]⟩
def clL : List He5.DefA := [d_OwnMake__init]
def fnL : List He5.DefA := [d_consists_of, d_list_elements, d_read_number, d_read_numbered, d_least_numbers, d_Directives__init, d_Directives_read, d_Directives_of, d_is_allowed, d_is_allowed_or_none, d_Kind__init, d_Kind_keep_field, d_kind_directives, d_tells_lifetime, d_serve_limit, d_Clock__init, d_Clock_span, d_Clock_reading, d_Setting__init, d_Setting_hops, d_Setting_calm, d_Setting_part, d_limits, d_keeps_kind, d_checking_hops, d_sound, d_need_calm, d_calm_chain, d_is_count, d_is_entry, d_is_state, d_empty_state, d_waited, d_after_wait, d_after_change, d_after_stop, d_after_ask, d_stepped, d_with_ranks, d_joined_state, d_common_hops, d_common_events, d_told_alike, d_step_both, d_empty_pair, d_story_to, d_compare, d_is_pair_of_states, d_is_alike, d_number_or_zero, d_Make__init, d_Make_all_settings, d_Make__eq, d_Make_lifetime, d_Make_keeps, d_Make_allowance, d_Make_error_allowance, d_Make_initial_age, d_StrictMake_allowance, d_StrictMake_error_allowance, d_law_bag, d_law_take, d_law_profile, d_law_other, d_law_make, d_law_setting, d_law_asked, d_law_older, d_law_is_step, d_law_tellings, d_law_parted, d_law_is_verdict, d_law_like, d_law_both_ways, d_law_through, d_law]
def faL : List He.Fa := [.glo "consists_of", .glo "list_elements", .glo "read_number", .glo "read_numbered", .glo "least_numbers", .glo "is_allowed", .glo "is_allowed_or_none", .glo "kind_directives", .glo "tells_lifetime", .glo "serve_limit", .glo "limits", .glo "keeps_kind", .glo "checking_hops", .glo "sound", .glo "need_calm", .glo "calm_chain", .glo "is_count", .glo "is_entry", .glo "is_state", .glo "empty_state", .glo "waited", .glo "after_wait", .glo "after_change", .glo "after_stop", .glo "after_ask", .glo "stepped", .glo "with_ranks", .glo "joined_state", .glo "common_hops", .glo "common_events", .glo "told_alike", .glo "step_both", .glo "empty_pair", .glo "story_to", .glo "compare", .glo "is_pair_of_states", .glo "is_alike", .glo "number_or_zero", .glo "_law_bag", .glo "_law_take", .glo "_law_profile", .glo "_law_other", .glo "_law_make", .glo "_law_setting", .glo "_law_asked", .glo "_law_older", .glo "_law_is_step", .glo "_law_tellings", .glo "_law_parted", .glo "_law_is_verdict", .glo "_law_like", .glo "_law_both_ways", .glo "_law_through", .glo "law", .free "abs", .free "all", .free "bool", .free "enumerate", .free "int", .free "isinstance", .free "len", .free "list", .free "max", .free "min", .free "range", .free "repr", .free "set", .free "sorted", .free "super", .free "tuple", .free "zip", .str "DIGITS" "0123456789", .int "MOST_DIGITS" (6), .str "KEEP_NAME" "keep", .glo "LIFETIME_NAMES", .glo "NUMBER_NAMES", .glo "MARK_WORDS", .int "MOST_NUMBER" (999999), .int "MOST_HOPS" (6), .int "MOST_BOUND" (1000), .int "MOST_DELAY" (1000), .int "MOST_SHARE" (100), .int "MOST_ROOM" (100), .glo "Directives", .cls "Directives", .mkr "Directives", .noat "Directives" "lasts", .noat "Directives" "shared_lasts", .noat "Directives" "late", .noat "Directives" "on_error", .noat "Directives" "age", .noat "Directives" "fresh", .noat "Directives" "strict", .noat "Directives" "check", .noat "Directives" "own", .noat "Directives" "never", .noat "Directives" "kept", .noat "Directives" "any_late", .glo "Kind", .cls "Kind", .mkr "Kind", .noat "Kind" "lasts", .noat "Kind" "shared_lasts", .noat "Kind" "late", .noat "Kind" "on_error", .noat "Kind" "strict", .noat "Kind" "check", .noat "Kind" "own", .noat "Kind" "never", .noat "Kind" "mark", .noat "Kind" "dated", .noat "Kind" "margin", .meth "Kind" "keep_field", .glo "Clock", .cls "Clock", .mkr "Clock", .noat "Clock" "behind", .noat "Clock" "ahead", .meth "Clock" "reading", .glo "Setting", .cls "Setting", .mkr "Setting", .noat "Setting" "makes", .noat "Setting" "kind", .noat "Setting" "clocks", .noat "Setting" "delays", .noat "Setting" "loses", .meth "Setting" "part", .glo "Make", .cls "Make", .mkr "Make", .noat "Make" "shared", .noat "Make" "grace", .noat "Make" "error_grace", .noat "Make" "tells", .noat "Make" "dates", .noat "Make" "checks", .noat "Make" "share", .noat "Make" "cap", .noat "Make" "durable", .noat "Make" "room", .meth "Make" "all_settings", .meth "Make" "lifetime", .meth "Make" "keeps", .meth "Make" "allowance", .meth "Make" "error_allowance", .meth "Make" "initial_age", .glo "StrictMake", .cls "StrictMake", .mkr "StrictMake", .noat "StrictMake" "shared", .noat "StrictMake" "grace", .noat "StrictMake" "error_grace", .noat "StrictMake" "tells", .noat "StrictMake" "dates", .noat "StrictMake" "checks", .noat "StrictMake" "share", .noat "StrictMake" "cap", .noat "StrictMake" "durable", .noat "StrictMake" "room", .meth "StrictMake" "allowance", .meth "StrictMake" "error_allowance", .meth "StrictMake" "all_settings", .meth "StrictMake" "lifetime", .meth "StrictMake" "keeps", .meth "StrictMake" "initial_age", .glo "OwnMake", .cls "OwnMake", .mkr "OwnMake", .noat "OwnMake" "shared", .noat "OwnMake" "grace", .noat "OwnMake" "error_grace", .noat "OwnMake" "tells", .noat "OwnMake" "dates", .noat "OwnMake" "checks", .noat "OwnMake" "share", .noat "OwnMake" "cap", .noat "OwnMake" "durable", .noat "OwnMake" "room", .meth "OwnMake" "all_settings", .meth "OwnMake" "lifetime", .meth "OwnMake" "keeps", .meth "OwnMake" "allowance", .meth "OwnMake" "error_allowance", .meth "OwnMake" "initial_age"]
def exL : List (PySem.W.Frag → Bool) := [fun K => He.tupB K "LIFETIME_NAMES" [.str "lasts", .str "shared-lasts"], fun K => He.tupB K "NUMBER_NAMES" [.str "lasts", .str "shared-lasts", .str "late", .str "on-error", .str "age", .str "fresh"], fun K => He.tupB K "MARK_WORDS" [.str "strong", .str "weak", .str "none"], fun K => He5.wrapB K (He.ga K "Directives") "staticmethod" "staticmethod.__get__" "read" && readsB K (He.ga K "Directives"), fun K => propB K (He.ga K "Clock") "span", fun K => propB K (He.ga K "Setting") "hops", fun K => propB K (He.ga K "Setting") "calm", fun K => decide (He.ma K (He.ga K "StrictMake") "__init__" = He.ma K (He.ga K "Make") "__init__"), fun K => decide (He.ma K (He.ga K "StrictMake") "all_settings" = He.ma K (He.ga K "Make") "all_settings"), fun K => decide (He.ma K (He.ga K "StrictMake") "lifetime" = He.ma K (He.ga K "Make") "lifetime"), fun K => decide (He.ma K (He.ga K "StrictMake") "keeps" = He.ma K (He.ga K "Make") "keeps"), fun K => decide (He.ma K (He.ga K "StrictMake") "initial_age" = He.ma K (He.ga K "Make") "initial_age"), fun K => decide (He.ma K (He.ga K "OwnMake") "all_settings" = He.ma K (He.ga K "Make") "all_settings"), fun K => decide (He.ma K (He.ga K "OwnMake") "lifetime" = He.ma K (He.ga K "Make") "lifetime"), fun K => decide (He.ma K (He.ga K "OwnMake") "keeps" = He.ma K (He.ga K "Make") "keeps"), fun K => decide (He.ma K (He.ga K "OwnMake") "allowance" = He.ma K (He.ga K "Make") "allowance"), fun K => decide (He.ma K (He.ga K "OwnMake") "error_allowance" = He.ma K (He.ga K "Make") "error_allowance"), fun K => decide (He.ma K (He.ga K "OwnMake") "initial_age" = He.ma K (He.ga K "Make") "initial_age"), fun K => clB K (He.ma K (He.ga K "OwnMake") "__init__") (He.ga K "OwnMake") (He.ma K (He.ga K "Make") "__init__") PySem.Challenge.pw_hopkeep_k98_alike_is_an_order_of_equals.main.file]
def exB (K : PySem.W.Frag) : Bool := exL.all fun f => f K
def loose0 : List PySem.Str := ["_wall", "HopError", "InvalidValue", "NoLifetime", "NotCalm", "DIGITS", "MOST_DIGITS", "consists_of", "list_elements", "read_number", "KEEP_NAME", "LIFETIME_NAMES", "NUMBER_NAMES", "read_numbered", "least_numbers", "Directives"]
def loose1 : List PySem.Str := ["MARK_WORDS", "MOST_NUMBER", "is_allowed", "is_allowed_or_none", "Kind", "kind_directives", "tells_lifetime", "serve_limit", "MOST_HOPS", "MOST_BOUND", "MOST_DELAY", "Clock", "Setting", "limits", "keeps_kind", "checking_hops"]
def loose2 : List PySem.Str := ["sound", "need_calm", "calm_chain", "is_count", "is_entry", "is_state", "empty_state", "waited", "after_wait", "after_change", "after_stop", "after_ask", "stepped", "with_ranks", "joined_state", "common_hops"]
def loose3 : List PySem.Str := ["common_events", "told_alike", "step_both", "empty_pair", "story_to", "compare", "is_pair_of_states", "is_alike", "MOST_SHARE", "MOST_ROOM", "number_or_zero", "Make", "StrictMake", "OwnMake", "_law_bag", "_law_take"]
def loose4 : List PySem.Str := ["_law_profile", "_law_other", "_law_make", "_law_setting", "_law_asked", "_law_older", "_law_is_step", "_law_tellings", "_law_parted", "_law_is_verdict", "_law_like", "_law_both_ways", "_law_through"]
def looseL : List PySem.Str := loose0 ++ (loose1 ++ (loose2 ++ (loose3 ++ (loose4))))
abbrev lawAt : Nat := 87
end K98
set_option Elab.async false
set_option linter.all false
set_option maxRecDepth 100000
set_option maxHeartbeats 0
namespace K98
open PySem PySem.Spec PyProof.Rows L2 He6
abbrev R : PySem.W.OpenRow := PySem.W.OpenLaw.row PySem.Challenge.rw_hopkeep_k98_alike_is_an_order_of_equals
abbrev hk : PySem.W.Hook := hookZ 5 faL fnL clL exB
def ob (s : PySem.W.SharedT) : He.AlD := obsZG 5 faL fnL clL exB (HandSHeadRun.getT s)
theorem ob_eq (s : PySem.W.SharedT) : ob s = hk.obs s.abs := obsZG_eq (HandSHeadRun.getT_eq s)
theorem run (w : World) : HandSHeadRun.RunEq R (PySem.W.view R.prog [lawAt]) hk ob 6000 looseL w := by
  intro os
  kernel_rfl
end K98
set_option Elab.async false
set_option linter.all false
set_option maxRecDepth 100000
set_option maxHeartbeats 4000000
/-! rules that the layer lacks -/
namespace Ru
open PySem PySem.Spec PyProof.Rows L2

/-! ### o.m(..) where o is of one of several classes: Sm C sp tells which classes, and what each promises -/
structure MetS (P : Program) (w : World) (K : PySem.W.Frag) (mg : Str → Option Value) (base : Heap) (k : Nat) (C : Addr) (m : Str) (sp : Sp) : Prop where
  ex : ∃ (f : Addr) (fd : FuncData) (ps : List Str), Cls K C ∧ Meth K C m f ∧ FnOk P w K mg base CX0 k f fd ps sp ∧ Binds K fd ps []
def tMethS (Sm : Addr → Sp → Prop) (m : Str) (ta : TE) (t : TA) : TE := fun σ H Q => ta σ H fun x H1 => ∃ C sp a dx fs, Sm C sp ∧ x = .ref a ∧ H1 a = some (.ins C dx fs) ∧ fs.lookup m = none ∧ t σ H1 fun vs H2 => sp (x :: vs) H2 Q E0
section
variable {X : Cx} {k j : Nat} {Sm : Addr → Sp → Prop} {o e : Expr} {es : List Expr} {m : Str} {apos pos : Pos} {ta : TE} {t : TA}
theorem pe_methSt {pl : Sem Bool} (he : PE X o ta) (c : ∀ C sp, Sm C sp → MetS X.prog X.w X.K X.mg X.base k C m sp) (hr : Room j X.A) (hk : k ≤ j) (ha : PA X (e :: es) t)
    (hst : starEach (e :: es) X.env = (false, eval e X.env) :: starEach es X.env := by rfl) (hpl : (backTo pos (starEach es X.env)).any (·.1) = false := by rfl)
    (ht : eval (.Call (.Attribute o m apos) (e :: es) [] pos) X.env = (do
      let ov ← eval o X.env
      standAt apos.atName
      let (f, first) ← holding [ov] (getMethod ov m pl)
      callWith pos f first (backTo pos (starEach (e :: es) X.env)) (backToKw pos (keywordEach [] X.env))) := by rfl) :
    PE X (.Call (.Attribute o m apos) (e :: es) [] pos) (tMethS Sm m ta t) := by
  refine ⟨fun pins s σ H Q I h => ?_⟩
  refine PySem.W.methodCall_KW (pl := pl) (thn (he.run pins s σ H _ I h) fun u s1 ⟨x, H1, I1, rx, C, sp, a, dx, fs, hS, ex, ea, l, q⟩ => ?_) ht
  obtain ⟨f, fd, ps, hc, hm, F, hb⟩ := (c C sp hS).ex
  subst ex
  obtain rfl : u = Value.ref a := rx
  refine getmeth_ok I1 ea hc hm l ?_
  refine PySem.W.callWith_K (first := [.ref a]) (h₀ := X.base) I.ok.mod.kin hm.kp (thn (ha.run pos pins s1 σ H1 _ I1 q) fun us s2 ⟨vs, H2, I2, r, q2⟩ => ⟨I2.kIn, ?_⟩) hst hpl
  exact run_fn (us := .ref a :: us) (vs := .ref a :: vs) (dvs := []) F (hr.mono hk) hb .nil pass0 I2 (.cons rfl r) (by simpa using q2)
theorem pe_methSt0 {pl : Sem Bool} (he : PE X o ta) (c : ∀ C sp, Sm C sp → MetS X.prog X.w X.K X.mg X.base k C m sp) (hr : Room j X.A) (hk : k ≤ j)
    (ht : eval (.Call (.Attribute o m apos) [] [] pos) X.env = (do
      let ov ← eval o X.env
      standAt apos.atName
      let (f, first) ← holding [ov] (getMethod ov m pl)
      callWith pos f first (backTo pos (starEach [] X.env)) (backToKw pos (keywordEach [] X.env))) := by rfl) :
    PE X (.Call (.Attribute o m apos) [] [] pos) (tMethS Sm m ta tNil) := by
  refine ⟨fun pins s σ H Q I h => ?_⟩
  refine PySem.W.methodCall_KW (pl := pl) (thn (he.run pins s σ H _ I h) fun u s1 ⟨x, H1, I1, rx, C, sp, a, dx, fs, hS, ex, ea, l, q⟩ => ?_) ht
  obtain ⟨f, fd, ps, hc, hm, F, hb⟩ := (c C sp hS).ex
  subst ex
  obtain rfl : u = Value.ref a := rx
  refine getmeth_ok I1 ea hc hm l ?_
  exact PySem.W.callWith_K0 (first := [.ref a]) I1.kIn hm.kp (run_fn (us := [.ref a]) (vs := [.ref a]) (dvs := []) F (hr.mono hk) hb .nil pass0 I1 (.cons rfl .nil) q)
end

/-! ### C.m(..), m a staticmethod of the class -/
structure SMet (P : Program) (w : World) (K : PySem.W.Frag) (mg : Str → Option Value) (base : Heap) (k : Nat) (C : Addr) (m : Str) (sp : Sp) : Prop where
  rd : ClX.CRead K C (.type "type")
  ex : ∃ (p g : Addr) (fd : FuncData) (ps : List Str), PySem.W.findCls K (.ref C) (.type "type") m = some (.get (.builtin "staticmethod.__get__") (.ref p) .none (.ref C)) ∧ (∃ rest, PySem.W.recIn K p "staticmethod" = some (.ref g :: rest)) ∧
    FnOk P w K mg base CX0 k g fd ps sp ∧ Binds K fd ps [] ∧ PySem.W.keepIn K (.ref g) = true
def tSMeth (C : Addr) (sp : Sp) (ta : TE) (t : TA) : TE := fun σ H Q => ta σ H fun x H1 => x = .ref C ∧ t σ H1 fun vs H2 => sp vs H2 Q E0
section
variable {X : Cx} {k j : Nat} {C : Addr} {sp : Sp} {o e : Expr} {es : List Expr} {m : Str} {apos pos : Pos} {ta : TE} {t : TA}
theorem pe_smeth {pl : Sem Bool} (he : PE X o ta) (c : SMet X.prog X.w X.K X.mg X.base k C m sp) (hr : Room j X.A) (hk : k ≤ j) (ha : PA X (e :: es) t)
    (hst : starEach (e :: es) X.env = (false, eval e X.env) :: starEach es X.env := by rfl) (hpl : (backTo pos (starEach es X.env)).any (·.1) = false := by rfl)
    (ht : eval (.Call (.Attribute o m apos) (e :: es) [] pos) X.env = (do
      let ov ← eval o X.env
      standAt apos.atName
      let (f, first) ← holding [ov] (getMethod ov m pl)
      callWith pos f first (backTo pos (starEach (e :: es) X.env)) (backToKw pos (keywordEach [] X.env))) := by rfl) :
    PE X (.Call (.Attribute o m apos) (e :: es) [] pos) (tSMeth C sp ta t) := by
  obtain ⟨p, g, fd, ps, hf, ⟨rest, hp⟩, F, hb, kp⟩ := c.ex
  refine ⟨fun pins s σ H Q I h => ?_⟩
  refine PySem.W.methodCall_KW (pl := pl) (thn (he.run pins s σ H _ I h) fun u s1 ⟨x, H1, I1, rx, ex, q⟩ => ?_) ht
  subst ex
  obtain rfl : u = Value.ref C := rx
  refine PySem.W.method_cls I1.kIn c.rd.ga ?_
  refine PySem.W.cls_bind I1.kIn c.rd.rd hf (wpAny_call (PySem.W.sm_get (s := { s1 with toks := s1.toks + 1 }) I1.kIn hp (PySem.W.handed_on rfl ?_)))
  have I2 := I1.tok (s1.toks + 1)
  refine PySem.W.callWith_K (first := []) (h₀ := X.base) I.ok.mod.kin kp (thn (ha.run pos pins _ σ H1 _ I2 q) fun us s2 ⟨vs, H2, I3, r, q2⟩ => ⟨I3.kIn, ?_⟩) hst hpl
  exact run_fn (dvs := []) F (hr.mono hk) hb .nil pass0 I3 r (by simpa using q2)
end

/-! ### repr of data -/
section
variable {X : Cx}
def rRepr (K : PySem.W.Frag) : List V → Hp → VK → Prop := fun xs H Q => ∃ (a : Addr) (d : PyData), xs = [.ref a] ∧ Dp K H (.ref a) d ∧ d.showable = true ∧ d.hasDict = false ∧ d.shown.length ≤ sizeLine ∧ d.depth ≤ 50 ∧ Q (.str d.shown) H
theorem call_reprD (hg : X.A.guards = some []) (hu : X.A.units + 64 < cLine) : CallR X (.builtin "repr") (rRepr X.K) := by
  intro pins s σ H xs us Q I r h
  obtain ⟨a, d, rfl, hd, hs, hnd, hsz, hdep, q⟩ := h
  obtain ⟨u, rfl, ru⟩ := r.one
  cases ru
  obtain ⟨as, hr⟩ := Dp.reads I d _ _ hd rfl
  refine repr_of_reads' hr hs (fun z => by rw [hnd] at z; cases z) hg (by omega) (fun b o e => e) (fun h' u tk hk => ?_) hsz
  exact ⟨.str d.shown, H, I.kept (t' := tk) hk, ⟨u, rfl⟩, q⟩
end
end Ru
set_option Elab.async false
set_option linter.all false
set_option maxRecDepth 100000
set_option maxHeartbeats 4000000
/-! dicts whose keys are nested tuples -/
namespace L2
open PySem PySem.Spec PyProof.Rows
/-! ### data, kept -/
mutual
theorem Dp.mono {K : PySem.W.Frag} {H H' : Hp} (e : Same H H') : ∀ (d : PyData) (v : V), Dp K H v d → Dp K H' v d
  | .none, _, h => by cases h; exact .non
  | .bool b, _, h => by cases h; exact .bl b
  | .int i, _, h => by cases h; exact .int i
  | .str x, _, h => by cases h; exact .str x
  | .list ds, _, h => by
    cases h with
    | lst hs ha => exact .lst (Evl.ex_l e hs) (Dp.monoAll e ds _ ha)
  | .tuple ds, _, h => by
    cases h with
    | tup hs ha => exact .tup (Evl.ex_t e hs) (Dp.monoAll e ds _ ha)
  | .dict _, _, h => by cases h
theorem Dp.monoAll {K : PySem.W.Frag} {H H' : Hp} (e : Same H H') : ∀ (ds : List PyData) (vs : List V), DpAll K H vs ds → DpAll K H' vs ds
  | [], _, h => by cases h; exact .nil
  | d :: ds, _, h => by
    cases h with
    | cons h1 h2 => exact .cons (Dp.mono e d _ h1) (Dp.monoAll e ds _ h2)
end
theorem same_new {H : Hp} {p : Addr} {o : HO} (h : H p = none) : Same H (upd H p o) := fun b x e => by
  rw [upd_ne (ne_of_none e h)]
  exact e
theorem same_mut {H H' : Hp} {p : Addr} {o : HO} (e : Same H H') (h : H p = none) : Same H (upd H' p o) := Evl.Ex.mut e h
theorem DpAll.len {K : PySem.W.Frag} {H : Hp} : ∀ {vs : List V} {ds : List PyData}, DpAll K H vs ds → vs.length = ds.length
  | [], [], _ => rfl
  | _ :: _, _ :: _, .cons _ h => congrArg Nat.succ (DpAll.len h)
theorem DpAll.get {K : PySem.W.Frag} {H : Hp} : ∀ {vs : List V} {ds : List PyData} {i : Nat} {d : PyData}, DpAll K H vs ds → ds[i]? = some d → ∃ v, vs[i]? = some v ∧ Dp K H v d
  | _, _, 0, d, .cons h _, e => by
    have e1 := Option.some.inj e
    subst e1
    exact ⟨_, rfl, h⟩
  | _, _, i + 1, d, .cons _ h, e => DpAll.get (i := i) h e
theorem DpAll.get' {K : PySem.W.Frag} {H : Hp} : ∀ {vs : List V} {ds : List PyData} {i : Nat} {v : V}, DpAll K H vs ds → vs[i]? = some v → ∃ d, ds[i]? = some d ∧ Dp K H v d
  | _, _, 0, d, .cons h _, e => by
    have e1 := Option.some.inj e
    subst e1
    exact ⟨_, rfl, h⟩
  | _, _, i + 1, d, .cons _ h, e => DpAll.get' (i := i) h e
theorem DpAll.append {K : PySem.W.Frag} {H : Hp} : ∀ {vs ws : List V} {ds es : List PyData}, DpAll K H vs ds → DpAll K H ws es → DpAll K H (vs ++ ws) (ds ++ es)
  | _, _, _, _, .nil, h => h
  | _, _, _, _, .cons h t, k => .cons h (DpAll.append t k)
theorem DpAll.take {K : PySem.W.Frag} {H : Hp} : ∀ {vs : List V} {ds : List PyData} (n : Nat), DpAll K H vs ds → DpAll K H (vs.take n) (ds.take n)
  | _, _, 0, _ => .nil
  | _, _, _ + 1, .nil => .nil
  | _, _, n + 1, .cons h t => .cons h (DpAll.take n t)
theorem DpAll.drop {K : PySem.W.Frag} {H : Hp} : ∀ {vs : List V} {ds : List PyData} (n : Nat), DpAll K H vs ds → DpAll K H (vs.drop n) (ds.drop n)
  | _, _, 0, h => h
  | _, _, _ + 1, .nil => .nil
  | _, _, n + 1, .cons _ t => DpAll.drop n t
theorem DpAll.set {K : PySem.W.Frag} {H : Hp} {v : V} {d : PyData} (r : Dp K H v d) : ∀ {vs : List V} {ds : List PyData} (i : Nat), DpAll K H vs ds → DpAll K H (vs.set i v) (ds.set i d)
  | _, _, _, .nil => .nil
  | _, _, 0, .cons _ t => .cons r t
  | _, _, i + 1, .cons h t => .cons h (DpAll.set r i t)
theorem Dp.tupI {K : PySem.W.Frag} {H : Hp} {v : V} {ds : List PyData} (h : Dp K H v (.tuple ds)) : ∃ a xs, v = .ref a ∧ SqT K H a xs ∧ DpAll K H xs ds := by
  cases h with
  | tup hs ha => exact ⟨_, _, rfl, hs, ha⟩
theorem Dp.lstI {K : PySem.W.Frag} {H : Hp} {v : V} {ds : List PyData} (h : Dp K H v (.list ds)) : ∃ a xs, v = .ref a ∧ SqL K H a xs ∧ DpAll K H xs ds := by
  cases h with
  | lst hs ha => exact ⟨_, _, rfl, hs, ha⟩
theorem Dp.intI {K : PySem.W.Frag} {H : Hp} {v : V} {i : Int} (h : Dp K H v (.int i)) : v = .int i := by cases h; rfl
theorem Dp.blI {K : PySem.W.Frag} {H : Hp} {v : V} {b : Bool} (h : Dp K H v (.bool b)) : v = .bl b := by cases h; rfl
theorem Dp.nonI {K : PySem.W.Frag} {H : Hp} {v : V} (h : Dp K H v .none) : v = .non := by cases h; rfl
theorem Dp.strI {K : PySem.W.Frag} {H : Hp} {v : V} {x : Str} (h : Dp K H v (.str x)) : v = .str x := by cases h; rfl
/-- a new tuple of data -/
theorem Dp.newT {K : PySem.W.Frag} {H : Hp} {p : Addr} {xs : List V} {ds : List PyData} (hp : H p = none) (h : DpAll K H xs ds) : Dp K (upd H p (.tup xs)) (.ref p) (.tuple ds) :=
  .tup (.inl (.inl upd_same)) (Dp.monoAll (same_new hp) ds _ h)
end L2
namespace Ru
open PySem PySem.Spec PyProof.Rows L2


/-! ### from data to keys -/
mutual
theorem nested_of_reads {h : Heap} : ∀ (k : NestedKey) (v : Value) (as : List Addr), Reads h v k.data as → NestedIs h k v
  | .none, _, _, r => by
    rw [NestedKey.data] at r
    cases r
    exact .none
  | .num i, _, _, r => by
    rw [NestedKey.data] at r
    cases r
    exact .int _ _
  | .text x, _, _, r => by
    rw [NestedKey.data] at r
    cases r
    exact .text _ _
  | .tup ks, _, _, r => by
    rw [NestedKey.data] at r
    cases r with
    | tuple h1 h2 h3 h4 => exact .tup h1 h2 h3 (nesteds_of_reads ks _ _ h4)
theorem nesteds_of_reads {h : Heap} : ∀ (ks : List NestedKey) (vs : List Value) (as : List Addr), ReadsAll h vs (NestedKey.datas ks) as → NestedAll h ks vs
  | [], _, _, r => by
    rw [NestedKey.datas] at r
    cases r
    exact .nil
  | k :: ks, _, _, r => by
    rw [NestedKey.datas] at r
    cases r with
    | cons h1 h2 => exact .cons (nested_of_reads k _ _ h1) (nesteds_of_reads ks _ _ h2)
end
abbrev nk (P : Program) (w : World) : HeapKind P w NestedKey := nestedKind P w
/-- the value a is the key k -/
structure KeyAt (K : PySem.W.Frag) (H : Hp) (a : Addr) (k : NestedKey) : Prop where
  d : Dp K H (.ref a) k.data
  dep : k.depth ≤ 8
theorem KeyAt.mono {K : PySem.W.Frag} {H H' : Hp} {a : Addr} {k : NestedKey} (e : Same H H') (h : KeyAt K H a k) : KeyAt K H' a k := ⟨Dp.mono e _ _ h.d, h.dep⟩
theorem KeyAt.is {X : Cx} {pins : List (Addr × Obj)} {σ : L2.St} {H : Hp} {s : Shared} {a : Addr} {k : NestedKey} (I : Inv X pins σ H s) (h : KeyAt X.K H a k) : (nk X.prog X.w).is s.heap k a := by
  obtain ⟨as, r⟩ := Dp.reads I _ _ _ h.d rfl
  exact ⟨nested_of_reads k _ as r, h.dep⟩

/-! ### the dict -/
abbrev NEnt := NestedKey × Addr × V
def RE (x : NEnt) (y : NestedKey × Addr × Value) : Prop := x.1 = y.1 ∧ x.2.1 = y.2.1 ∧ RelV x.2.2 y.2.2
def NDict (P : Program) (w : World) (d : Addr) (xs : List NEnt) : HO := .ext fun h => (d == sysModules) = false ∧ ∃ (o : Obj) (es : Array DictEntry) (ep : Nat) (ys : List (NestedKey × Addr × Value)),
  h.get? d = some o ∧ o.ExactDict ∧ o.data = .dict es ep ∧ Paired RE xs ys ∧ es.toList = ys.map (entryOfKey (nk P w)) ∧ (xs.map (·.1)).Nodup
def keysAt (K : PySem.W.Frag) (H : Hp) (xs : List NEnt) : Prop := ∀ x ∈ xs, KeyAt K H x.2.1 x.1
theorem keysAt.mono {K : PySem.W.Frag} {H H' : Hp} {xs : List NEnt} (e : Same H H') (h : keysAt K H xs) : keysAt K H' xs := fun x hx => (h x hx).mono e
theorem pr_keys : ∀ {xs : List NEnt} {ys : List (NestedKey × Addr × Value)}, Paired RE xs ys → xs.map (·.1) = ys.map (·.1)
  | _, _, .nil => rfl
  | _, _, .cons h t => by rw [List.map_cons, List.map_cons, pr_keys t, h.1]
theorem pr_mem : ∀ {xs : List NEnt} {ys : List (NestedKey × Addr × Value)}, Paired RE xs ys → ∀ {y}, y ∈ ys → ∃ x ∈ xs, RE x y
  | _, _, .nil, y, h => nomatch h
  | _, _, .cons h t, y, hy => by
    rcases List.mem_cons.mp hy with e | hy
    · rw [e]; exact ⟨_, List.mem_cons_self, h⟩
    · obtain ⟨x, hx, r⟩ := pr_mem t hy
      exact ⟨x, List.mem_cons_of_mem _ hx, r⟩
/-- what a key has -/
def lookN (xs : List NEnt) (k : NestedKey) : Option V := (xs.find? fun x => decide (x.1 = k)).map (·.2.2)
def putN (xs : List NEnt) (k : NestedKey) (a : Addr) (v : V) : List NEnt := if (lookN xs k).isSome then xs.map (fun x => if x.1 = k then (x.1, x.2.1, v) else x) else xs ++ [(k, a, v)]
theorem pr_look {k : NestedKey} : ∀ {xs : List NEnt} {ys : List (NestedKey × Addr × Value)}, Paired RE xs ys → RelO (lookN xs k) ((atKey ys k).map (·.2)) ∧ (lookN xs k).isSome = (atKey ys k).isSome
  | _, _, .nil => ⟨trivial, rfl⟩
  | x :: xs, y :: ys, .cons h t => by
    obtain ⟨h1, h2⟩ := pr_look (k := k) t
    unfold lookN atKey at h1 h2 ⊢
    rw [List.find?_cons, List.find?_cons, h.1]
    by_cases e : y.1 = k
    · rw [decide_eq_true e]
      exact ⟨h.2.2, rfl⟩
    · rw [decide_eq_false e]
      exact ⟨h1, h2⟩
theorem pr_map {k : NestedKey} {v : V} {u : Value} (r : RelV v u) : ∀ {xs : List NEnt} {ys : List (NestedKey × Addr × Value)}, Paired RE xs ys → Paired RE (xs.map (fun x => if x.1 = k then (x.1, x.2.1, v) else x)) (ys.map (putAt k u))
  | _, _, .nil => .nil
  | x :: xs, y :: ys, .cons h t => by
    refine .cons ?_ (pr_map r t)
    show RE (if x.1 = k then (x.1, x.2.1, v) else x) (putAt k u y)
    unfold putAt
    by_cases e : x.1 = k
    · rw [if_pos e, if_pos (h.1 ▸ e)]
      exact ⟨h.1, h.2.1, r⟩
    · rw [if_neg e, if_neg (fun q => e (h.1.trans q))]
      exact h
theorem pr_put {k : NestedKey} {a : Addr} {v : V} {u : Value} (r : RelV v u) {xs : List NEnt} {ys : List (NestedKey × Addr × Value)} (h : Paired RE xs ys) : Paired RE (putN xs k a v) (storedH ys k a u) := by
  unfold putN storedH
  rw [(pr_look (k := k) h).2]
  by_cases e : (atKey ys k).isSome = true
  · rw [if_pos e, if_pos e]
    exact pr_map r h
  · rw [if_neg e, if_neg e]
    have app : ∀ {xs : List NEnt} {ys : List (NestedKey × Addr × Value)} {zs : List NEnt} {ws : List (NestedKey × Addr × Value)}, Paired RE xs ys → Paired RE zs ws → Paired RE (xs ++ zs) (ys ++ ws) := by
      intro xs ys zs ws p q
      induction p with
      | nil => exact q
      | cons h _ ih => exact .cons h ih
    exact app h (.cons ⟨rfl, rfl, r⟩ .nil)
section
variable {X : Cx} {pins : List (Addr × Obj)} {σ : L2.St} {H : Hp} {s : Shared} {d : Addr} {xs : List NEnt}
theorem nd_get (I : Inv X pins σ H s) (hd : H d = some (NDict X.prog X.w d xs)) (hk : keysAt X.K H xs) : (d == sysModules) = false ∧ ∃ ys, Paired RE xs ys ∧ s.heap.DictOfH (nk X.prog X.w) d ys := by
  obtain ⟨⟨hs, o, es, ep, ys, h1, h2, h3, h4, h5, h6⟩, _⟩ := I.hok d _ hd
  refine ⟨hs, ys, h4, o, es, ep, h1, h2, h3, h5, fun y hy => ?_, by rw [← pr_keys h4]; exact h6⟩
  obtain ⟨x, hx, r⟩ := pr_mem h4 hy
  have q := (hk x hx).is I
  rw [r.1, r.2.1] at q
  exact q
theorem nd_new {P : Program} {w : World} {H : Hp} {h : Heap} {ys : List (NestedKey × Addr × Value)} (hs : (d == sysModules) = false) (hp : Paired RE xs ys) (hm : h.DictOfH (nk P w) d ys) : ObjOk P w H h d (NDict P w d xs) := by
  obtain ⟨o, es, ep, h1, h2, h3, h4, h5, h6⟩ := hm
  refine ⟨⟨hs, o, es, ep, ys, h1, h2, h3, hp, h4, by rw [pr_keys hp]; exact h6⟩, ⟨o, h1⟩, ?_⟩
  rintro g1 g2 ⟨z0, o', es', ep', ys', z1, z⟩ k
  exact ⟨z0, o', es', ep', ys', k _ z1, z⟩
end
/-- k in d, k not in d -/
def rNIn (P : Program) (w : World) (K : PySem.W.Frag) (neg : Bool) : R2 := fun x y H Q => ∃ (a d : Addr) (xs : List NEnt) (k : NestedKey), x = .ref a ∧ y = .ref d ∧ H d = some (NDict P w d xs) ∧ keysAt K H xs ∧ KeyAt K H a k ∧
  Q (.bl (if neg then !(lookN xs k).isSome else (lookN xs k).isSome)) H
section
variable {X : Cx}
theorem op_nin (hu : X.A.units + 64 < cLine) : OpR X (compareOp .In) (rNIn X.prog X.w X.K false) := by
  intro pins s σ H x y v u Q I rx ry h
  obtain ⟨a, d, xs, k, rfl, rfl, hd, hk, ha, q⟩ := h
  cases rx
  cases ry
  obtain ⟨hs, ys, hp, hm⟩ := nd_get I hd hk
  refine wpAny_in_heap (knd := nk X.prog X.w) (by show X.A.units + 1 + 8 < cLine; omega) (ha.is I) hs hm ?_
  rw [← (pr_look hp).2]
  exact ⟨.bl _, H, I.tok _, rfl, q⟩
theorem op_nnotin (hu : X.A.units + 64 < cLine) : OpR X (compareOp .NotIn) (rNIn X.prog X.w X.K true) := by
  intro pins s σ H x y v u Q I rx ry h
  obtain ⟨a, d, xs, k, rfl, rfl, hd, hk, ha, q⟩ := h
  cases rx
  cases ry
  obtain ⟨hs, ys, hp, hm⟩ := nd_get I hd hk
  show wpAny _ _ (do return Value.bool (!(← contains (Value.ref d) (Value.ref a)))) _ _ s
  have z : ∀ Q', Q' (lookN xs k).isSome { s with toks := s.toks + (nk X.prog X.w).draws k } → wpAny (model X.prog X.w) X.A (contains (.ref d) (.ref a)) Q' X.xe s := fun Q' hq => by
    unfold contains
    try with_reducible refine wpAny_holding ?_
    refine wpAny_bind (wpAny_specialOf hm.typeIs slot_dict_contains.lookup ?_)
    show wpAny _ _ (if (some (Value.builtin "dict.__contains__") == some Value.none) = true then _ else _) _ _ s
    rw [if_neg (by rw [beq_builtin_none]; exact Bool.false_ne_true)]
    refine wpAny_bind (wpAny_callSpecialUnlessNone?_slot (name := Str.ofString "__contains__") hm.typeIs slot_dict_contains
      (wpAny_call_entry slot_dict_contains hm.typeIs entry_dict_contains ?_ (args_dict_contains _ _)))
    show wpAny _ _ (dictGet d (.ref a) >>= _) _ _ s
    refine wpAny_bind (wpAny_dictGet_heap (knd := nk X.prog X.w) (by show X.A.units + 1 + 8 < cLine; omega) (ha.is I) hm ?_)
    have e := (pr_look (k := k) hp).2
    cases hf : atKey ys k with
    | some p =>
      rw [hf] at e
      rw [e] at hq
      show wpAny _ _ (ret (.bool true)) _ _ _
      exact wpAny_pure ⟨_, rfl, wpAny_truthy_bool hq⟩
    | none =>
      rw [hf] at e
      rw [e] at hq
      show wpAny _ _ (Builtin.Dict.pendingKey? d (.ref a) >>= _) _ _ _
      exact wpAny_bind (wpAny_pendingKey_other hs (wpAny_pure ⟨_, rfl, wpAny_truthy_bool hq⟩))
  refine wpAny_bind (z _ (wpAny_pure ⟨.bl _, H, I.tok _, rfl, ?_⟩))
  exact q
/-- d[k] -/
def rNGet (P : Program) (w : World) (K : PySem.W.Frag) : R2 := fun x y H Q => ∃ (a d : Addr) (xs : List NEnt) (k : NestedKey) (v : V), x = .ref d ∧ y = .ref a ∧ H d = some (NDict P w d xs) ∧ keysAt K H xs ∧ KeyAt K H a k ∧ lookN xs k = some v ∧ Q v H
theorem op_nget (hu : X.A.units + 64 < cLine) : OpR X getItem (rNGet X.prog X.w X.K) := by
  intro pins s σ H x y v u Q I rx ry h
  obtain ⟨a, d, xs, k, z, rfl, rfl, hd, hk, ha, hl, q⟩ := h
  cases rx
  cases ry
  obtain ⟨hs, ys, hp, hm⟩ := nd_get I hd hk
  obtain ⟨e1, e2⟩ := pr_look (k := k) hp
  rw [hl] at e1 e2
  cases hf : atKey ys k with
  | none => rw [hf] at e2; cases e2
  | some p =>
    rw [hf] at e1
    exact wpAny_getItem_heap (knd := nk X.prog X.w) (by show X.A.units + 1 + 8 < cLine; omega) (ha.is I) hm hf ⟨z, H, I.tok _, e1, q⟩
/-- d[k] = v -/
def rNSet (P : Program) (w : World) (K : PySem.W.Frag) : TSet := fun o i v H Q => ∃ (a d : Addr) (xs : List NEnt) (k : NestedKey), o = .ref d ∧ i = .ref a ∧ H d = some (NDict P w d xs) ∧ keysAt K H xs ∧ KeyAt K H a k ∧ xs.length < sizeLine ∧ Q (upd H d (NDict P w d (putN xs k a v)))
theorem set_nput (hu : X.A.units + 64 < cLine) : PSet X (rNSet X.prog X.w X.K) := by
  intro pins s σ H o i v ov iv u Q I ro ri rv h
  obtain ⟨a, d, xs, k, rfl, rfl, hd, hk, ha, hz, q⟩ := h
  cases ro
  cases ri
  obtain ⟨hs, ys, hp, hm⟩ := nd_get I hd hk
  have hl : ys.length = xs.length := (Paired.length hp).symm
  refine wpAny_setItem_heap (knd := nk X.prog X.w) (by show X.A.units + 1 + 8 < cLine; omega) (ha.is I) hm (fun h' hm' sb => ?_) (hsz := by omega)
  obtain ⟨o', es', ep', ho', hrest⟩ := id hm'
  exact ⟨_, I.write (e := d) (by rw [hd]; trivial) (.inl rfl) (fun b x hb e => (sb.2 b hb).trans e) ⟨o', ho'⟩ (nd_new hs (pr_put rv hp) hm'), q⟩
/-- {} for such keys; {k: v} -/
def tNNew (P : Program) (w : World) : TE := fun _ H Q => ∀ p, H p = none → Q (.ref p) (upd H p (NDict P w p []))
theorem pe_nnew {pos : Pos} : PE X (.Dict [] [] pos) (tNNew X.prog X.w) := ⟨fun pins s σ H Q I h =>
  wpAny_Dict_empty ⟨.ref s.heap.objs.size, _, I.laid (a := s.heap.objs.size) (o := NDict X.prog X.w s.heap.objs.size []) (t' := s.toks) (fun _ _ q => Heap.get?_push_of_some _ q) (Nat.le_refl _)
    (nd_new (beq_eq_false_iff_ne.mpr (Ne.symm (Nat.ne_of_lt I.big))) .nil (Heap.DictOfH.new _)), rfl, h _ (I.hok.fresh (Nat.le_refl _))⟩⟩
def tNOne (P : Program) (w : World) (K : PySem.W.Frag) (tk tv : TE) : TE := fun σ H Q => ∀ p, H p = none → tk σ (upd H p (NDict P w p [])) fun x H1 => tv σ H1 fun v H2 => H2 p = some (NDict P w p []) ∧ ∃ a k, x = .ref a ∧ KeyAt K H2 a k ∧
  Q (.ref p) (upd H2 p (NDict P w p [(k, a, v)]))
theorem pe_none1 {k v : Expr} {pos : Pos} {tk tv : TE} (hu : X.A.units + 64 < cLine) (hk : PE X k tk) (hv : PE X v tv)
    (hsh : (evalEachOpt [some k] X.env).zip ((evalEach [v] X.env).map fun v => do let x ← v; standAt pos; pure x) = [(eval k X.env, do let x ← eval v X.env; standAt pos; pure x)].map fun p => (some p.1, p.2) := by rfl) :
    PE X (.Dict [some k] [v] pos) (tNOne X.prog X.w X.K tk tv) := by
  refine ⟨fun pins s σ H Q I h => ?_⟩
  have hn := I.hok.fresh (Nat.le_refl s.heap.objs.size)
  have hs : (s.heap.objs.size == sysModules) = false := beq_eq_false_iff_ne.mpr (Ne.symm (Nat.ne_of_lt I.big))
  have I1 := I.laid (a := s.heap.objs.size) (o := NDict X.prog X.w s.heap.objs.size []) (h' := s.heap.push { cls := .type "dict", data := .dict #[] }) (t' := s.toks) (fun _ _ q => Heap.get?_push_of_some _ q) (Nat.le_refl _) (nd_new hs .nil (Heap.DictOfH.new _))
  rw [arm_eval_Dict, hsh, dictDisplay_pairs _ (by simp) (by simp)]
  refine wpAny_bind (wpAny_standAt (wpAny_bind (wpAny_subDictH (knd := nk X.prog X.w) (by show X.A.units + 8 < cLine; omega) (by simp) ?_)))
  refine evalPairs_cons (thn (hk.run pins _ σ _ _ I1 (h _ hn)) fun x s1 ⟨vx, H1, I2, rx, q1⟩ => ?_)
  refine wpAny_bind (thn (hv.run pins s1 σ H1 _ I2 q1) fun y s2 ⟨vy, H2, I3, ry, hd, a, k, ex, ha, q⟩ => ?_)
  refine wpAny_bind (wpAny_standAt (wpAny_pure (evalPairs_nil ?_)))
  subst ex
  cases rx
  obtain ⟨_, ys, hp, hm⟩ := nd_get I3 hd (fun x hx => nomatch hx)
  cases hp
  refine ⟨[(k, a, y)], ⟨rfl, rfl, ha.is I3, trivial⟩, hm, fun h' tk' hm' sb => ?_⟩
  obtain ⟨o', es', ep', ho', hrest⟩ := id hm'
  exact wpAny_pure ⟨.ref _, _, I3.write (e := s.heap.objs.size) (t' := tk') (by rw [hd]; trivial) (.inl rfl) (fun b x hb e => (sb.2 b hb).trans e) ⟨o', ho'⟩ (nd_new (xs := [(k, a, vy)]) hs (.cons ⟨rfl, rfl, ry⟩ .nil) hm'), rfl, q⟩
end
end Ru
set_option Elab.async false
set_option linter.all false
set_option maxRecDepth 100000
set_option maxHeartbeats 4000000
namespace Ru
open PySem PySem.Spec PyProof.Rows L2

/-! ### enumerate(tuple) -/
set_option maxHeartbeats 1000000 in
theorem meets_enum1 {v : Value} {o : Obj} {H : Heap → Prop} (B : Begins v o H) :
    Meets (Builtin.«enumerate.__new__» ⟨[.type "enumerate", v], []⟩) (fun _ R s => H s.heap ∧
      R (.ok (.ret (.ref (s.heap.push o).objs.size))) { s with heap := (s.heap.push o).push { cls := .type "enumerate", data := .fields #[.none, .bool false, .ref s.heap.objs.size, rawInt 0, .none, .none] } }) :=
  .of_wp fun prog w A R s h => by
    obtain ⟨hp, g, d, tk, os⟩ := s; obtain ⟨h1, h⟩ := h
    have hsub := sub_enumerate
    have q1 : ∀ {A' : Around} {E : Value → Shared → Prop} {Q : Value → Shared → Prop}, Q (.ref hp.objs.size) ⟨hp.push o, g, d, tk, os⟩ → wpAny (model prog w) A' (pyIter v) Q E ⟨hp, g, d, tk, os⟩ :=
      fun q => B.iter prog w _ _ ⟨hp, g, d, tk, os⟩ _ h1 q
    wp_walk using q1
    refine wpAny_stack_any fun st => wpAny_pure ?_
    split
    · rename_i c _ _ _ _ _
      cases (c == Value.type "enumerate")
      · wp_walk using q1
        exact ⟨_, rfl, h⟩
      · wp_walk using q1
        exact ⟨_, rfl, h⟩
    · wp_walk using q1
      exact ⟨_, rfl, h⟩
section
variable {prog : Program} {w : World} {A : Around} {E : Value → Shared → Prop} {s : Shared}
theorem enum_begins1 {v : Value} {o : Obj} {H : Heap → Prop} {Q : Value → Shared → Prop} (B : Begins v o H) (h1 : H s.heap)
    (h : ∀ h', IsEnum h' (s.heap.objs.size + 1) s.heap.objs.size 0 .none → h'.get? s.heap.objs.size = some o → h'.objs.size = s.heap.objs.size + 2 →
      (∀ b o, s.heap.get? b = some o → h'.get? b = some o) → Q (.ref (s.heap.objs.size + 1)) { s with heap := h' }) :
    wpAny (model prog w) A (call (.type "enumerate") [v]) Q E s := by
  refine callType_new F.called_enumerate (by decide) (F.typeCall_enumerate_1 _) (F.newCall_enumerate_1 _) (fun obj => F.args_object_init_2 obj _) F.entry_enumerate_new
    (meets_enum1 B) ⟨h1, ?_⟩
  have hz : (s.heap.push o).objs.size = s.heap.objs.size + 1 := Heap.size_push ..
  show _ ∧ _
  rw [hz]
  have he : IsEnum ((s.heap.push o).push { cls := .type "enumerate", data := .fields #[.none, .bool false, .ref s.heap.objs.size, rawInt 0, .none, .none] }) (s.heap.objs.size + 1) s.heap.objs.size 0 .none := by
    have := Heap.get?_push_size (s.heap.push o) (o := { cls := .type "enumerate", data := .fields #[.none, .bool false, .ref s.heap.objs.size, rawInt 0, .none, .none] }) rfl
    rw [hz] at this; exact this
  refine ⟨⟨_, he, rfl⟩, h _ he (Heap.get?_push_of_some _ (Heap.get?_push_size _ B.free)) (by rw [Heap.size_push, hz]) fun b o x => Heap.get?_push_of_some _ (Heap.get?_push_of_some _ x)⟩
end
/-- the tuple at a at each turn, each item in a new pair -/
def IteT (K : PySem.W.Frag) (a : Addr) : It :=
  ⟨fun i H => ∃ (xs : List V) (x : V), SqT K H a xs ∧ xs[i]? = some x, fun i H v H' => ∃ T x, v = .ref T ∧ H T = none ∧ H' = upd H T (.tup [.int (i : Nat), x]) ∧ ∀ xs, SqT K H a xs → xs[i]? = some x, fun i H => ∃ xs : List V, SqT K H a xs ∧ xs.length ≤ i⟩
theorem turn_enumT {P : Program} {w : World} {K : PySem.W.Frag} {elts : List Expr} {kk : Nat} {tpos : Pos} (a e it : Addr) :
    Turn P w K (.Tuple elts kk tpos) (IteT K a) [e, it] e (fun i h => (∃ old, IsEnum h e it ((i : Nat) : Int) old) ∧ h.IsTupleIter it a i ∧ e ≠ it ∧ a ≠ it ∧ e ≠ a) where
  mem := by simp
  obj := fun i h st b hb => by
    obtain ⟨⟨old, he⟩, ⟨o, ho, hc, hd⟩, _⟩ := st
    have e' : b = e ∨ b = it := by simpa using hb
    rcases e' with z | z
    · rw [z]; exact ⟨_, he, fun v q => nomatch q⟩
    · rw [z]; exact ⟨o, ho, fun v q => by rw [hd] at q; cases q⟩
  keep := fun i h h' st k => let ⟨⟨old, he⟩, hi, hne⟩ := st; ⟨⟨old, k e (by simp) _ he⟩, hi.at fun o q => k it (by simp) o q, hne⟩
  item := by
    intro X hP hw hK hc i pins s σ H E I hf st hg
    subst hP hw hK
    obtain ⟨⟨old, he⟩, hit, hne, hai, hea⟩ := st
    obtain ⟨xs, x, hq, hx⟩ := hg
    obtain ⟨its, rv, p, hz⟩ := I.tuple hq
    obtain ⟨u, hu, ru⟩ := rv.get hx
    have hel : e < s.heap.objs.size := Heap.lt_size he
    have hil : it < s.heap.objs.size := by obtain ⟨_, q, _⟩ := hit; exact Heap.lt_size q
    have hlt : i < its.toArray.size := by
      have := (List.getElem?_eq_some_iff.mp hu).1
      simpa using this
    refine wpAny_pyNext_enum_itemC (Draws.tuple (A := X.A.in1) (I.ok.hd hc) it a hai its.toArray) he ⟨hit, p⟩ hlt hne (by simp [hne, hea]) fun x' h' tk hx' ho hst' hT hsz hk => ?_
    have exu : x' = u := by
      have z : its.toArray[i]? = some x' := hx'
      rw [show its.toArray[i]? = its[i]? by simp, hu] at z
      exact (Option.some.inj z).symm
    subst exu
    refine ⟨_, rfl, wpAny_letOwnedTupleGo_enum (s := { s with heap := h', toks := tk + 1 }) ho fun h'' he' sb => ?_⟩
    have hT2 : h''.get? s.heap.objs.size = some { cls := .type "tuple", data := .seq #[.int i tk, x'] } := (sb.2 _ (Nat.ne_of_gt hel)).trans hT
    have new : ObjOk X.prog X.w (upd H s.heap.objs.size (.tup [.int (i : Nat), x])) h'' s.heap.objs.size (.tup [.int (i : Nat), x]) :=
      ⟨by show 2 ≤ sizeLine; decide, [.int i tk, x'], .cons ⟨_, rfl⟩ (.cons ru .nil), ⟨_, hT2, rfl, _, rfl⟩⟩
    have I1 : Inv X pins σ (upd H s.heap.objs.size (.tup [.int (i : Nat), x])) { s with heap := h'', toks := tk + 1 } :=
      I.turnedNew (ch := [e, it]) (fun b ob hb q => (sb.2 b (fun z => hb (by simp [z]))).trans (hk b ob (fun z => hb (by simp [z])) (fun z => hb (by simp [z])) q)) hf (Nat.le_refl _) new
    refine ⟨.ref s.heap.objs.size, _, I1, rfl, ⟨_, x, rfl, I.hok.fresh (Nat.le_refl _), rfl, fun ys hy => by rw [I.tuple_inj hy hq]; exact hx⟩, ⟨⟨x', ?_⟩, hst'.1.at fun o q => (sb.2 it (Ne.symm hne)).trans q, hne, hai, hea⟩, fun b hb => ?_⟩
    · have e1 : ((i + 1 : Nat) : Int) = (i : Int) + 1 := by omega
      rw [e1]; exact he'
    · have hb' : b < s.heap.objs.size := by
        have e' : b = e ∨ b = it := by simpa using hb
        rcases e' with z | z
        · rw [z]; exact hel
        · rw [z]; exact hil
      rw [upd_ne (Nat.ne_of_lt hb')]
      exact (hf b hb).1
  done := by
    intro X hP hw hK hc i pins s σ H E I hf st hg
    subst hP hw hK
    obtain ⟨⟨old, he⟩, hit, hne, hai, hea⟩ := st
    obtain ⟨xs, hq, hx⟩ := hg
    obtain ⟨its, rv, p, hz⟩ := I.tuple hq
    obtain ⟨f0, f1, f2, f3, f4, f5⟩ := hf it (by simp)
    have hl := rv.length
    have hs : its.toArray.size ≤ i := by simp; omega
    have D : Draws X.prog X.w X.A.in1 it [it, a] i (fun i v => its.toArray[i]? = some v) (fun j h => j = i ∧ h.IsTupleIter it a i ∧ h.IsTuple a its.toArray) :=
      { live := fun _ _ st => let ⟨o, ho, _⟩ := st.2.1; ⟨o, ho⟩
        frame := fun _ _ _ st hk => ⟨st.1, st.2.1.at fun o e => hk it (by simp) o e, st.2.2.at fun o e => hk a (by simp) o e⟩
        item := fun j s Q E hi st hQ => absurd st.1 (Nat.ne_of_lt hi)
        done := fun s Q E st hE => wpAny_nextOf_tuple_end (I.ok.hd hc) st.2.1 st.2.2 (by simp; omega) hE }
    exact wpAny_pyNext_enum_endD D he ⟨rfl, hit, p⟩ fun h' eb => ⟨rfl, I.turned (t' := s.toks) (fun b o hb q => eb b o hb q) f0 f1 f3 f4 f5⟩
  self := fun A i s Q E st h => let ⟨⟨_, he⟩, _⟩ := st; wpAny_pyIter_enum he h
def iEnumT (K : PySem.W.Frag) (ta : TA) : TI := fun σ H R => ta σ H fun vs H1 => ∃ a xs, vs = [.ref a] ∧ SqT K H1 a xs ∧ R (IteT K a) H1
theorem pi_enumT {X : Cx} {e : Expr} {ta : TA} {p pos tpos : Pos} {elts : List Expr} {kk : Nat} (hg : Gl X "enumerate") (hm : X.mg "enumerate" = none) (ha : PA X [e] ta) (hs : starEach [e] X.env = [(false, eval e X.env)] := by rfl) :
    PI X (.Tuple elts kk tpos) (.Call (.Name "enumerate" p) [e] [] pos) (iEnumT X.K ta) := by
  refine ⟨fun pins s σ H R I h => ?_⟩
  refine Call_ (ld_blt I hg hm boot_enumerate (PyProof.Rows.callWith_type1 (thn (ha.run pos pins s σ H _ I h) fun us s1 ⟨vs, H1, I1, r1, q1⟩ => ?_) hs rfl))
  obtain ⟨a, xs, ex, hq, q⟩ := q1
  subst ex
  cases r1 with
  | cons r rr =>
    cases rr
    cases r
    obtain ⟨its, rv, p', hz⟩ := I1.tuple hq
    refine enum_begins1 (begins_tuple a its.toArray) p' fun h' he hit hsz hk => wpAny_pyIter_enum he ?_
    have I2 : Inv X pins σ H1 { s1 with heap := h' } := I1.kept (t' := s1.toks) hk
    have la : a < s1.heap.objs.size := p'.lt
    refine ⟨s1.heap.objs.size + 1, [s1.heap.objs.size + 1, s1.heap.objs.size], _, _, H1, rfl, I2, turn_enumT a (s1.heap.objs.size + 1) s1.heap.objs.size, ⟨⟨.none, he⟩, ⟨_, hit, rfl, rfl⟩, Nat.succ_ne_self _, Nat.ne_of_lt la, fun z => ?_⟩, fun b hb => ?_, q⟩
    · exact absurd la (by rw [← z]; exact Nat.not_lt.mpr (Nat.le_succ _))
    have e' : b = s1.heap.objs.size + 1 ∨ b = s1.heap.objs.size := by simpa using hb
    have hle : s1.heap.objs.size ≤ b := by
      rcases e' with z | z
      · rw [z]; exact Nat.le_add_right _ _
      · rw [z]; exact Nat.le_refl _
    exact I1.fpOk hle (I1.hok.fresh hle)
theorem walk_enumT {K : PySem.W.Frag} {a : Addr} {xs : List V} : Walk (IteT K a) xs.length (fun H => SqT K H a xs) (fun i H v H' => ∃ T x, v = .ref T ∧ H T = none ∧ H' = upd H T (.tup [.int (i : Nat), x]) ∧ xs[i]? = some x) :=
  ⟨fun i _ hi q => ⟨xs, xs[i], q, by simp [hi]⟩, fun _ q => ⟨xs, q, Nat.le_refl _⟩, fun _ _ _ _ _ q y => let ⟨T, x, h1, h2, h3, h4⟩ := y; ⟨T, x, h1, h2, h3, h4 xs q⟩⟩
theorem walk_enumL {K : PySem.W.Frag} {a : Addr} {xs : List V} : Walk (Ite K a) xs.length (fun H => SqL K H a xs) (fun i H v H' => ∃ T x, v = .ref T ∧ H T = none ∧ H' = upd H T (.tup [.int (i : Nat), x]) ∧ xs[i]? = some x) :=
  ⟨fun i _ hi q => ⟨xs, xs[i], q, by simp [hi]⟩, fun _ q => ⟨xs, q, Nat.le_refl _⟩, fun _ _ _ _ _ q y => let ⟨T, x, h1, h2, h3, h4⟩ := y; ⟨T, x, h1, h2, h3, h4 xs q⟩⟩
/-! ### set(list of ints) -/
section

variable {P : Program} {w : World} {A : Around} {E : Value → Shared → Prop} {s : Shared}
set_option maxRecDepth 100000 in
set_option maxHeartbeats 3200000 in
theorem call_set_lstI {l : Addr} {items : Array Value} (ns : List Int) {Q : Value → Shared → Prop} (hh : A.handled = none) (hl : s.heap.IsList l items) (hit : IntsAre items.toList ns) (hb : ns.length + 1 < scanBound)
    (h : ∀ (h' : Heap) (tk c : Nat), SetR w h' s.heap.objs.size (fun j => decide (j ∈ ns)) c → c ≤ ns.length → (∀ b o, s.heap.get? b = some o → h'.get? b = some o) → Q (.ref s.heap.objs.size) { s with heap := h', toks := tk }) :
    wpAny (model P w) A (call (.type "set") [.ref l]) Q E s := by
  have hisz : items.size = ns.length := by
    have q := IntsAre.length hit
    rw [Array.length_toList] at q
    exact q
  obtain ⟨c, tl, hmro⟩ := F.called_set.mro
  have hmade := F.called_set.made
  have hsub := F.called_set.sub
  refine wpAny_call (codeAny_of_tree ?_)
  show wpAny _ _ (callAny (.type "set") _) _ _ _
  refine wpAny_pure ⟨Code.quiet_builtin _ (by decide +kernel), codeAny_builtin F.entry_type_call ?_⟩
  rw [Around.under_plain (weight_type_call_type "set" [.ref l] []) rfl]
  have h1 := F.called_set.notType
  have h2 := F.called_set.canCreate
  have hct := F.typeCall_set_1 (.ref l)
  repeat (any_goals (first | assumption | wp_step))

  refine codeAny_mono (code_set_led1 (.ref l) (E := E) (Q₁ := fun obj s₁ => obj = .ref s.heap.objs.size ∧ s₁ = { s with heap := s.heap.push { cls := .type "set", dict := none, data := .set #[] 0 (.fresh 0 0 (!w.params.followText "set-order")) } }) ⟨rfl, rfl⟩) fun r s₁ hr => ?_
  cases r with
  | error e => exact hr
  | ok fl =>
    cases fl with
    | ret obj =>
      obtain ⟨rfl, rfl⟩ := hr
      have hS : (s.heap.push { cls := .type "set", dict := none, data := .set #[] 0 (.fresh 0 0 (!w.params.followText "set-order")) }).get? s.heap.objs.size = some { cls := .type "set", dict := none, data := .set #[] 0 (.fresh 0 0 (!w.params.followText "set-order")) } := Heap.get?_push_size _ rfl
      have hT : Shared.TypeIs { s with heap := s.heap.push { cls := .type "set", dict := none, data := .set #[] 0 (.fresh 0 0 (!w.params.followText "set-order")) } } (.ref s.heap.objs.size) "set" := ⟨_, hS, rfl⟩
      have hli := F.called_set.init.lookup
      have hbi := F.called_set.init.bind (.ref s.heap.objs.size)
      repeat (any_goals (first | assumption | wp_step))

      refine codeAny_mono (codeAny_call_builtin (R := wants (fun r s₂ => r = .none ∧ ∃ h' tk c, s₂ = { s with heap := h', toks := tk } ∧ SetR w h' s.heap.objs.size (fun j => decide (j ∈ ns)) c ∧ c ≤ ns.length ∧
          (∀ b o, s.heap.get? b = some o → h'.get? b = some o)) E) F.called_set.init.plain F.entry_set_init (check_set_init_1 hT ?_)) fun r₂ s₂ hr₂ => ?_
      · obtain ⟨ol, hol, hcl, nl, hdl⟩ := hl
        obtain ⟨ocls, odict, odata, oslots⟩ := ol
        simp only at hcl hdl
        subst hcl; subst hdl
        have hol' : (s.heap.push { cls := .type "set", dict := none, data := .set #[] 0 (.fresh 0 0 (!w.params.followText "set-order")) }).get? l = some { cls := .type "list", dict := odict, data := .seq items nl, slots := oslots } := Heap.get?_push_of_some _ hol
        have hsls := F.sub_list_set
        have hslf := F.sub_list_frozenset
        have hne : (Value.type "list" == Value.type "dict") = false := by decide
        have hl1 : (s.heap.push { cls := .type "set", dict := none, data := .set #[] 0 (.fresh 0 0 (!w.params.followText "set-order")) }).IsList l items := ⟨_, hol', rfl, nl, rfl⟩
        unfold Builtin.«set.__init__» noKeywords Builtin.Frozenset.updateFrom
        generalize hPI : pyIter = PI
        wp_walk
        subst hPI

        refine wpAny_pyIter_list hl1 ?_
        refine wpAny_bind (wpAny_runValue ?_)
        have hlS : l < s.heap.objs.size := Heap.lt_size hol
        have hh3 : A.in1.in1.in1.handled = none := by simp [hh]
        have hz1 : (s.heap.push { cls := .type "set", dict := none, data := .set #[] 0 (.fresh 0 0 (!w.params.followText "set-order")) }).objs.size = s.heap.objs.size + 1 := Heap.size_push ..
        have hneI : l ≠ (s.heap.push { cls := .type "set", dict := none, data := .set #[] 0 (.fresh 0 0 (!w.params.followText "set-order")) }).objs.size := by
          rw [Heap.size_push]; exact Nat.ne_of_lt (Nat.lt_succ_of_lt hlS)
        have hSf : s.heap.objs.size ∉ [(s.heap.push { cls := .type "set", dict := none, data := .set #[] 0 (.fresh 0 0 (!w.params.followText "set-order")) }).objs.size, l] := by
          rw [Heap.size_push]; simp only [List.mem_cons, List.mem_singleton, List.not_mem_nil, or_false, not_or]
          exact ⟨Nat.ne_of_lt (Nat.lt_succ_self _), Nat.ne_of_gt hlS⟩
        have hval : ∀ (i : Nat) (v : Value), items[i]? = some v → ∃ k t, ns[i]? = some k ∧ v = .int k t := fun i v hv => by
          have hi : i < ns.length := by rw [← hisz]; exact (Array.getElem?_eq_some_iff.mp hv).1
          obtain ⟨t, e⟩ := PyProof.Rows.IntsAre.int_at hit i v (by rw [Array.getElem?_toList]; exact hv)
          refine ⟨ns[i], t, List.getElem?_eq_getElem hi, ?_⟩
          rw [e, List.getD_eq_getElem?_getD, List.getElem?_eq_getElem hi] <;> rfl
        refine set_update_ints ((Walks.list hh3 _ l hneI items).toS) s.heap.objs.size
          hSf ns hisz hb hval (items.size - 0) 0 _ (by omega) (Nat.zero_le _)
          ⟨⟨_, Heap.get?_push_size _ rfl, rfl, rfl⟩, (hl1.push _)⟩ ?hS0 ?hR
        case hS0 =>
          have hget : ((s.heap.push { cls := .type "set", dict := none, data := .set #[] 0 (.fresh 0 0 (!w.params.followText "set-order")) }).push { cls := .type "list_iterator", data := .fields #[.ref l, .int 0 0] }).get? s.heap.objs.size
              = some { cls := .type "set", dict := none, data := .set #[] 0 (.fresh 0 0 (!w.params.followText "set-order")) } := Heap.get?_push_of_some _ hS
          exact ⟨0, Nat.le_refl 0, setR_new_at hget⟩
        case hR =>
          intro s' c' hm hc' hS'
          obtain ⟨h', g2, d', tk', os'⟩ := s'
          have eg : g2 = s.gens := hm.gens
          have ed : d' = s.drawn := hm.drawn
          have eo : os' = s.os := hm.os
          subst eg; subst ed; subst eo
          show wpAny _ _ _ _ _ _
          refine wpAny_pure ?_
          show wpAny _ _ (ret Value.none) _ _ _
          rw [hisz] at hc'
          refine wpAny_pure ⟨rfl, h', tk', c', rfl, hS', hc', fun b o e => ?_⟩
          have hb0 : b < s.heap.objs.size := Heap.lt_size e
          have hb1 : b ≠ s.heap.objs.size := Nat.ne_of_lt hb0
          have hb2 : b ≠ (s.heap.push { cls := .type "set", dict := none, data := .set #[] 0 (.fresh 0 0 (!w.params.followText "set-order")) }).objs.size := by
            rw [Heap.size_push]; exact Nat.ne_of_lt (Nat.lt_succ_of_lt hb0)
          exact hm.heap b o (by simp only [List.mem_cons, List.mem_singleton, List.not_mem_nil, or_false, not_or]; exact ⟨hb1, hb2⟩) (Heap.get?_push_of_some _ (Heap.get?_push_of_some _ e))

      · cases r₂ with
        | error e => exact hr₂
        | ok fl₂ =>
          cases fl₂ with
          | ret r =>
            obtain ⟨rfl, h', tk, c', rfl, hS', hc', hk'⟩ := hr₂
            repeat (any_goals (first | assumption | wp_step))
            exact h _ _ _ hS' hc' hk'
          | _ => exact hr₂.elim
    | _ => exact hr.elim

end
section
variable {X : Cx}
def rSetI (w : World) (K : PySem.W.Frag) : List V → Hp → VK → Prop := fun xs H Q => ∃ (l : Addr) (ns : List Int), xs = [.ref l] ∧ SqL K H l (ns.map V.int) ∧ ns.length ≤ 50 ∧ ∀ (p : Addr) (c : Nat), H p = none → c ≤ ns.length → Q (.ref p) (upd H p (SetO w p (fun j => decide (j ∈ ns)) c))
theorem cr_setI (hc : X.calm = true) : CallR X (.type "set") (rSetI X.w X.K) := by
  intro pins s σ H xs us Q I r h
  obtain ⟨l, ns, rfl, hl, hz, q⟩ := h
  obtain ⟨u, rfl, ru⟩ := r.one
  cases ru
  obtain ⟨its, rv, p, _⟩ := I.list hl
  refine call_set_lstI ns (I.ok.hd hc) p.isList (by simpa using ints_of_vals rv) (by show ns.length + 1 < scanBound; exact Nat.lt_of_le_of_lt (Nat.succ_le_succ hz) (by decide)) fun h' tk c hS hc' hk => ?_
  exact ⟨.ref _, _, I.laid (t' := tk) hk (Nat.le_refl _) (setO_new hS), rfl, q _ c (I.hok.fresh (Nat.le_refl _)) hc'⟩
end
end Ru
set_option Elab.async false
set_option linter.all false
set_option maxRecDepth 100000
set_option maxHeartbeats 4000000
namespace K98
open PySem PySem.Spec PyProof.Rows L2 Ru He6
open C8 (Cal pe_c)
structure TT (K : PySem.W.Frag) (mg : Str → Option Value) : Prop where
  c : He6.SaysZ faL fnL clL exB K
  glo : ∀ x, He.Fa.glo x ∈ faL → mg x = some (.ref (He.ga K x))
  free : ∀ x, He.Fa.free x ∈ faL → mg x = none
  int : ∀ x i, He.Fa.int x i ∈ faL → ∃ t, mg x = some (.int i t)
  str : ∀ x z, He.Fa.str x z ∈ faL → ∃ t, mg x = some (.str z t)
theorem fm {f : He.Fa} (i : Nat) (h : faL[i]? = some f) : f ∈ faL := List.mem_of_getElem? h
theorem xm {K : PySem.W.Frag} {mg : Str → Option Value} (T : TT K mg) (i : Nat) {f : PySem.W.Frag → Bool} (h : exL[i]? = some f) : f K = true := List.all_eq_true.mp T.c.more f (List.mem_of_getElem? h)
section
variable {K : PySem.W.Frag} {mg : Str → Option Value}
theorem g_consists_of (T : TT K mg) : mg "consists_of" = some (.ref (He.ga K "consists_of")) := T.glo _ (fm 0 rfl)
theorem g_list_elements (T : TT K mg) : mg "list_elements" = some (.ref (He.ga K "list_elements")) := T.glo _ (fm 1 rfl)
theorem g_read_number (T : TT K mg) : mg "read_number" = some (.ref (He.ga K "read_number")) := T.glo _ (fm 2 rfl)
theorem g_read_numbered (T : TT K mg) : mg "read_numbered" = some (.ref (He.ga K "read_numbered")) := T.glo _ (fm 3 rfl)
theorem g_least_numbers (T : TT K mg) : mg "least_numbers" = some (.ref (He.ga K "least_numbers")) := T.glo _ (fm 4 rfl)
theorem g_is_allowed (T : TT K mg) : mg "is_allowed" = some (.ref (He.ga K "is_allowed")) := T.glo _ (fm 5 rfl)
theorem g_is_allowed_or_none (T : TT K mg) : mg "is_allowed_or_none" = some (.ref (He.ga K "is_allowed_or_none")) := T.glo _ (fm 6 rfl)
theorem g_kind_directives (T : TT K mg) : mg "kind_directives" = some (.ref (He.ga K "kind_directives")) := T.glo _ (fm 7 rfl)
theorem g_tells_lifetime (T : TT K mg) : mg "tells_lifetime" = some (.ref (He.ga K "tells_lifetime")) := T.glo _ (fm 8 rfl)
theorem g_serve_limit (T : TT K mg) : mg "serve_limit" = some (.ref (He.ga K "serve_limit")) := T.glo _ (fm 9 rfl)
theorem g_limits (T : TT K mg) : mg "limits" = some (.ref (He.ga K "limits")) := T.glo _ (fm 10 rfl)
theorem g_keeps_kind (T : TT K mg) : mg "keeps_kind" = some (.ref (He.ga K "keeps_kind")) := T.glo _ (fm 11 rfl)
theorem g_checking_hops (T : TT K mg) : mg "checking_hops" = some (.ref (He.ga K "checking_hops")) := T.glo _ (fm 12 rfl)
theorem g_sound (T : TT K mg) : mg "sound" = some (.ref (He.ga K "sound")) := T.glo _ (fm 13 rfl)
theorem g_need_calm (T : TT K mg) : mg "need_calm" = some (.ref (He.ga K "need_calm")) := T.glo _ (fm 14 rfl)
theorem g_calm_chain (T : TT K mg) : mg "calm_chain" = some (.ref (He.ga K "calm_chain")) := T.glo _ (fm 15 rfl)
theorem g_is_count (T : TT K mg) : mg "is_count" = some (.ref (He.ga K "is_count")) := T.glo _ (fm 16 rfl)
theorem g_is_entry (T : TT K mg) : mg "is_entry" = some (.ref (He.ga K "is_entry")) := T.glo _ (fm 17 rfl)
theorem g_is_state (T : TT K mg) : mg "is_state" = some (.ref (He.ga K "is_state")) := T.glo _ (fm 18 rfl)
theorem g_empty_state (T : TT K mg) : mg "empty_state" = some (.ref (He.ga K "empty_state")) := T.glo _ (fm 19 rfl)
theorem g_waited (T : TT K mg) : mg "waited" = some (.ref (He.ga K "waited")) := T.glo _ (fm 20 rfl)
theorem g_after_wait (T : TT K mg) : mg "after_wait" = some (.ref (He.ga K "after_wait")) := T.glo _ (fm 21 rfl)
theorem g_after_change (T : TT K mg) : mg "after_change" = some (.ref (He.ga K "after_change")) := T.glo _ (fm 22 rfl)
theorem g_after_stop (T : TT K mg) : mg "after_stop" = some (.ref (He.ga K "after_stop")) := T.glo _ (fm 23 rfl)
theorem g_after_ask (T : TT K mg) : mg "after_ask" = some (.ref (He.ga K "after_ask")) := T.glo _ (fm 24 rfl)
theorem g_stepped (T : TT K mg) : mg "stepped" = some (.ref (He.ga K "stepped")) := T.glo _ (fm 25 rfl)
theorem g_with_ranks (T : TT K mg) : mg "with_ranks" = some (.ref (He.ga K "with_ranks")) := T.glo _ (fm 26 rfl)
theorem g_joined_state (T : TT K mg) : mg "joined_state" = some (.ref (He.ga K "joined_state")) := T.glo _ (fm 27 rfl)
theorem g_common_hops (T : TT K mg) : mg "common_hops" = some (.ref (He.ga K "common_hops")) := T.glo _ (fm 28 rfl)
theorem g_common_events (T : TT K mg) : mg "common_events" = some (.ref (He.ga K "common_events")) := T.glo _ (fm 29 rfl)
theorem g_told_alike (T : TT K mg) : mg "told_alike" = some (.ref (He.ga K "told_alike")) := T.glo _ (fm 30 rfl)
theorem g_step_both (T : TT K mg) : mg "step_both" = some (.ref (He.ga K "step_both")) := T.glo _ (fm 31 rfl)
theorem g_empty_pair (T : TT K mg) : mg "empty_pair" = some (.ref (He.ga K "empty_pair")) := T.glo _ (fm 32 rfl)
theorem g_story_to (T : TT K mg) : mg "story_to" = some (.ref (He.ga K "story_to")) := T.glo _ (fm 33 rfl)
theorem g_compare (T : TT K mg) : mg "compare" = some (.ref (He.ga K "compare")) := T.glo _ (fm 34 rfl)
theorem g_is_pair_of_states (T : TT K mg) : mg "is_pair_of_states" = some (.ref (He.ga K "is_pair_of_states")) := T.glo _ (fm 35 rfl)
theorem g_is_alike (T : TT K mg) : mg "is_alike" = some (.ref (He.ga K "is_alike")) := T.glo _ (fm 36 rfl)
theorem g_number_or_zero (T : TT K mg) : mg "number_or_zero" = some (.ref (He.ga K "number_or_zero")) := T.glo _ (fm 37 rfl)
theorem g_law_bag (T : TT K mg) : mg "_law_bag" = some (.ref (He.ga K "_law_bag")) := T.glo _ (fm 38 rfl)
theorem g_law_take (T : TT K mg) : mg "_law_take" = some (.ref (He.ga K "_law_take")) := T.glo _ (fm 39 rfl)
theorem g_law_profile (T : TT K mg) : mg "_law_profile" = some (.ref (He.ga K "_law_profile")) := T.glo _ (fm 40 rfl)
theorem g_law_other (T : TT K mg) : mg "_law_other" = some (.ref (He.ga K "_law_other")) := T.glo _ (fm 41 rfl)
theorem g_law_make (T : TT K mg) : mg "_law_make" = some (.ref (He.ga K "_law_make")) := T.glo _ (fm 42 rfl)
theorem g_law_setting (T : TT K mg) : mg "_law_setting" = some (.ref (He.ga K "_law_setting")) := T.glo _ (fm 43 rfl)
theorem g_law_asked (T : TT K mg) : mg "_law_asked" = some (.ref (He.ga K "_law_asked")) := T.glo _ (fm 44 rfl)
theorem g_law_older (T : TT K mg) : mg "_law_older" = some (.ref (He.ga K "_law_older")) := T.glo _ (fm 45 rfl)
theorem g_law_is_step (T : TT K mg) : mg "_law_is_step" = some (.ref (He.ga K "_law_is_step")) := T.glo _ (fm 46 rfl)
theorem g_law_tellings (T : TT K mg) : mg "_law_tellings" = some (.ref (He.ga K "_law_tellings")) := T.glo _ (fm 47 rfl)
theorem g_law_parted (T : TT K mg) : mg "_law_parted" = some (.ref (He.ga K "_law_parted")) := T.glo _ (fm 48 rfl)
theorem g_law_is_verdict (T : TT K mg) : mg "_law_is_verdict" = some (.ref (He.ga K "_law_is_verdict")) := T.glo _ (fm 49 rfl)
theorem g_law_like (T : TT K mg) : mg "_law_like" = some (.ref (He.ga K "_law_like")) := T.glo _ (fm 50 rfl)
theorem g_law_both_ways (T : TT K mg) : mg "_law_both_ways" = some (.ref (He.ga K "_law_both_ways")) := T.glo _ (fm 51 rfl)
theorem g_law_through (T : TT K mg) : mg "_law_through" = some (.ref (He.ga K "_law_through")) := T.glo _ (fm 52 rfl)
theorem g_law (T : TT K mg) : mg "law" = some (.ref (He.ga K "law")) := T.glo _ (fm 53 rfl)
theorem b_abs (T : TT K mg) : mg "abs" = none := T.free _ (fm 54 rfl)
theorem b_all (T : TT K mg) : mg "all" = none := T.free _ (fm 55 rfl)
theorem b_bool (T : TT K mg) : mg "bool" = none := T.free _ (fm 56 rfl)
theorem b_enumerate (T : TT K mg) : mg "enumerate" = none := T.free _ (fm 57 rfl)
theorem b_int (T : TT K mg) : mg "int" = none := T.free _ (fm 58 rfl)
theorem b_isinstance (T : TT K mg) : mg "isinstance" = none := T.free _ (fm 59 rfl)
theorem b_len (T : TT K mg) : mg "len" = none := T.free _ (fm 60 rfl)
theorem b_list (T : TT K mg) : mg "list" = none := T.free _ (fm 61 rfl)
theorem b_max (T : TT K mg) : mg "max" = none := T.free _ (fm 62 rfl)
theorem b_min (T : TT K mg) : mg "min" = none := T.free _ (fm 63 rfl)
theorem b_range (T : TT K mg) : mg "range" = none := T.free _ (fm 64 rfl)
theorem b_repr (T : TT K mg) : mg "repr" = none := T.free _ (fm 65 rfl)
theorem b_set (T : TT K mg) : mg "set" = none := T.free _ (fm 66 rfl)
theorem b_sorted (T : TT K mg) : mg "sorted" = none := T.free _ (fm 67 rfl)
theorem b_super (T : TT K mg) : mg "super" = none := T.free _ (fm 68 rfl)
theorem b_tuple (T : TT K mg) : mg "tuple" = none := T.free _ (fm 69 rfl)
theorem b_zip (T : TT K mg) : mg "zip" = none := T.free _ (fm 70 rfl)
theorem t_DIGITS (T : TT K mg) : ∃ t, mg "DIGITS" = some (.str "0123456789" t) := T.str _ _ (fm 71 rfl)
theorem i_MOST_DIGITS (T : TT K mg) : ∃ t, mg "MOST_DIGITS" = some (.int (6) t) := T.int _ _ (fm 72 rfl)
theorem t_KEEP_NAME (T : TT K mg) : ∃ t, mg "KEEP_NAME" = some (.str "keep" t) := T.str _ _ (fm 73 rfl)
theorem g_LIFETIME_NAMES (T : TT K mg) : mg "LIFETIME_NAMES" = some (.ref (He.ga K "LIFETIME_NAMES")) := T.glo _ (fm 74 rfl)
theorem g_NUMBER_NAMES (T : TT K mg) : mg "NUMBER_NAMES" = some (.ref (He.ga K "NUMBER_NAMES")) := T.glo _ (fm 75 rfl)
theorem g_MARK_WORDS (T : TT K mg) : mg "MARK_WORDS" = some (.ref (He.ga K "MARK_WORDS")) := T.glo _ (fm 76 rfl)
theorem i_MOST_NUMBER (T : TT K mg) : ∃ t, mg "MOST_NUMBER" = some (.int (999999) t) := T.int _ _ (fm 77 rfl)
theorem i_MOST_HOPS (T : TT K mg) : ∃ t, mg "MOST_HOPS" = some (.int (6) t) := T.int _ _ (fm 78 rfl)
theorem i_MOST_BOUND (T : TT K mg) : ∃ t, mg "MOST_BOUND" = some (.int (1000) t) := T.int _ _ (fm 79 rfl)
theorem i_MOST_DELAY (T : TT K mg) : ∃ t, mg "MOST_DELAY" = some (.int (1000) t) := T.int _ _ (fm 80 rfl)
theorem i_MOST_SHARE (T : TT K mg) : ∃ t, mg "MOST_SHARE" = some (.int (100) t) := T.int _ _ (fm 81 rfl)
theorem i_MOST_ROOM (T : TT K mg) : ∃ t, mg "MOST_ROOM" = some (.int (100) t) := T.int _ _ (fm 82 rfl)
theorem g_Directives (T : TT K mg) : mg "Directives" = some (.ref (He.ga K "Directives")) := T.glo _ (fm 83 rfl)
theorem c_Directives (T : TT K mg) : Cls K (He.ga K "Directives") := He.cls_ok (T.c.fact (fm 84 rfl))
theorem k_Directives (T : TT K mg) : Mk K (He.ga K "Directives") (He.ma K (He.ga K "Directives") "__init__") := He.mkr_ok (T.c.fact (fm 85 rfl))
theorem n_Directives_lasts (T : TT K mg) : NoAttr K (He.ga K "Directives") "lasts" := He.noat_ok (T.c.fact (fm 86 rfl))
theorem n_Directives_shared_lasts (T : TT K mg) : NoAttr K (He.ga K "Directives") "shared_lasts" := He.noat_ok (T.c.fact (fm 87 rfl))
theorem n_Directives_late (T : TT K mg) : NoAttr K (He.ga K "Directives") "late" := He.noat_ok (T.c.fact (fm 88 rfl))
theorem n_Directives_on_error (T : TT K mg) : NoAttr K (He.ga K "Directives") "on_error" := He.noat_ok (T.c.fact (fm 89 rfl))
theorem n_Directives_age (T : TT K mg) : NoAttr K (He.ga K "Directives") "age" := He.noat_ok (T.c.fact (fm 90 rfl))
theorem n_Directives_fresh (T : TT K mg) : NoAttr K (He.ga K "Directives") "fresh" := He.noat_ok (T.c.fact (fm 91 rfl))
theorem n_Directives_strict (T : TT K mg) : NoAttr K (He.ga K "Directives") "strict" := He.noat_ok (T.c.fact (fm 92 rfl))
theorem n_Directives_check (T : TT K mg) : NoAttr K (He.ga K "Directives") "check" := He.noat_ok (T.c.fact (fm 93 rfl))
theorem n_Directives_own (T : TT K mg) : NoAttr K (He.ga K "Directives") "own" := He.noat_ok (T.c.fact (fm 94 rfl))
theorem n_Directives_never (T : TT K mg) : NoAttr K (He.ga K "Directives") "never" := He.noat_ok (T.c.fact (fm 95 rfl))
theorem n_Directives_kept (T : TT K mg) : NoAttr K (He.ga K "Directives") "kept" := He.noat_ok (T.c.fact (fm 96 rfl))
theorem n_Directives_any_late (T : TT K mg) : NoAttr K (He.ga K "Directives") "any_late" := He.noat_ok (T.c.fact (fm 97 rfl))
theorem g_Kind (T : TT K mg) : mg "Kind" = some (.ref (He.ga K "Kind")) := T.glo _ (fm 98 rfl)
theorem c_Kind (T : TT K mg) : Cls K (He.ga K "Kind") := He.cls_ok (T.c.fact (fm 99 rfl))
theorem k_Kind (T : TT K mg) : Mk K (He.ga K "Kind") (He.ma K (He.ga K "Kind") "__init__") := He.mkr_ok (T.c.fact (fm 100 rfl))
theorem n_Kind_lasts (T : TT K mg) : NoAttr K (He.ga K "Kind") "lasts" := He.noat_ok (T.c.fact (fm 101 rfl))
theorem n_Kind_shared_lasts (T : TT K mg) : NoAttr K (He.ga K "Kind") "shared_lasts" := He.noat_ok (T.c.fact (fm 102 rfl))
theorem n_Kind_late (T : TT K mg) : NoAttr K (He.ga K "Kind") "late" := He.noat_ok (T.c.fact (fm 103 rfl))
theorem n_Kind_on_error (T : TT K mg) : NoAttr K (He.ga K "Kind") "on_error" := He.noat_ok (T.c.fact (fm 104 rfl))
theorem n_Kind_strict (T : TT K mg) : NoAttr K (He.ga K "Kind") "strict" := He.noat_ok (T.c.fact (fm 105 rfl))
theorem n_Kind_check (T : TT K mg) : NoAttr K (He.ga K "Kind") "check" := He.noat_ok (T.c.fact (fm 106 rfl))
theorem n_Kind_own (T : TT K mg) : NoAttr K (He.ga K "Kind") "own" := He.noat_ok (T.c.fact (fm 107 rfl))
theorem n_Kind_never (T : TT K mg) : NoAttr K (He.ga K "Kind") "never" := He.noat_ok (T.c.fact (fm 108 rfl))
theorem n_Kind_mark (T : TT K mg) : NoAttr K (He.ga K "Kind") "mark" := He.noat_ok (T.c.fact (fm 109 rfl))
theorem n_Kind_dated (T : TT K mg) : NoAttr K (He.ga K "Kind") "dated" := He.noat_ok (T.c.fact (fm 110 rfl))
theorem n_Kind_margin (T : TT K mg) : NoAttr K (He.ga K "Kind") "margin" := He.noat_ok (T.c.fact (fm 111 rfl))
theorem m_Kind_keep_field (T : TT K mg) : Meth K (He.ga K "Kind") "keep_field" (He.ma K (He.ga K "Kind") "keep_field") := He.meth_ok (T.c.fact (fm 112 rfl))
theorem g_Clock (T : TT K mg) : mg "Clock" = some (.ref (He.ga K "Clock")) := T.glo _ (fm 113 rfl)
theorem c_Clock (T : TT K mg) : Cls K (He.ga K "Clock") := He.cls_ok (T.c.fact (fm 114 rfl))
theorem k_Clock (T : TT K mg) : Mk K (He.ga K "Clock") (He.ma K (He.ga K "Clock") "__init__") := He.mkr_ok (T.c.fact (fm 115 rfl))
theorem n_Clock_behind (T : TT K mg) : NoAttr K (He.ga K "Clock") "behind" := He.noat_ok (T.c.fact (fm 116 rfl))
theorem n_Clock_ahead (T : TT K mg) : NoAttr K (He.ga K "Clock") "ahead" := He.noat_ok (T.c.fact (fm 117 rfl))
theorem m_Clock_reading (T : TT K mg) : Meth K (He.ga K "Clock") "reading" (He.ma K (He.ga K "Clock") "reading") := He.meth_ok (T.c.fact (fm 118 rfl))
theorem g_Setting (T : TT K mg) : mg "Setting" = some (.ref (He.ga K "Setting")) := T.glo _ (fm 119 rfl)
theorem c_Setting (T : TT K mg) : Cls K (He.ga K "Setting") := He.cls_ok (T.c.fact (fm 120 rfl))
theorem k_Setting (T : TT K mg) : Mk K (He.ga K "Setting") (He.ma K (He.ga K "Setting") "__init__") := He.mkr_ok (T.c.fact (fm 121 rfl))
theorem n_Setting_makes (T : TT K mg) : NoAttr K (He.ga K "Setting") "makes" := He.noat_ok (T.c.fact (fm 122 rfl))
theorem n_Setting_kind (T : TT K mg) : NoAttr K (He.ga K "Setting") "kind" := He.noat_ok (T.c.fact (fm 123 rfl))
theorem n_Setting_clocks (T : TT K mg) : NoAttr K (He.ga K "Setting") "clocks" := He.noat_ok (T.c.fact (fm 124 rfl))
theorem n_Setting_delays (T : TT K mg) : NoAttr K (He.ga K "Setting") "delays" := He.noat_ok (T.c.fact (fm 125 rfl))
theorem n_Setting_loses (T : TT K mg) : NoAttr K (He.ga K "Setting") "loses" := He.noat_ok (T.c.fact (fm 126 rfl))
theorem m_Setting_part (T : TT K mg) : Meth K (He.ga K "Setting") "part" (He.ma K (He.ga K "Setting") "part") := He.meth_ok (T.c.fact (fm 127 rfl))
theorem g_Make (T : TT K mg) : mg "Make" = some (.ref (He.ga K "Make")) := T.glo _ (fm 128 rfl)
theorem c_Make (T : TT K mg) : Cls K (He.ga K "Make") := He.cls_ok (T.c.fact (fm 129 rfl))
theorem k_Make (T : TT K mg) : Mk K (He.ga K "Make") (He.ma K (He.ga K "Make") "__init__") := He.mkr_ok (T.c.fact (fm 130 rfl))
theorem n_Make_shared (T : TT K mg) : NoAttr K (He.ga K "Make") "shared" := He.noat_ok (T.c.fact (fm 131 rfl))
theorem n_Make_grace (T : TT K mg) : NoAttr K (He.ga K "Make") "grace" := He.noat_ok (T.c.fact (fm 132 rfl))
theorem n_Make_error_grace (T : TT K mg) : NoAttr K (He.ga K "Make") "error_grace" := He.noat_ok (T.c.fact (fm 133 rfl))
theorem n_Make_tells (T : TT K mg) : NoAttr K (He.ga K "Make") "tells" := He.noat_ok (T.c.fact (fm 134 rfl))
theorem n_Make_dates (T : TT K mg) : NoAttr K (He.ga K "Make") "dates" := He.noat_ok (T.c.fact (fm 135 rfl))
theorem n_Make_checks (T : TT K mg) : NoAttr K (He.ga K "Make") "checks" := He.noat_ok (T.c.fact (fm 136 rfl))
theorem n_Make_share (T : TT K mg) : NoAttr K (He.ga K "Make") "share" := He.noat_ok (T.c.fact (fm 137 rfl))
theorem n_Make_cap (T : TT K mg) : NoAttr K (He.ga K "Make") "cap" := He.noat_ok (T.c.fact (fm 138 rfl))
theorem n_Make_durable (T : TT K mg) : NoAttr K (He.ga K "Make") "durable" := He.noat_ok (T.c.fact (fm 139 rfl))
theorem n_Make_room (T : TT K mg) : NoAttr K (He.ga K "Make") "room" := He.noat_ok (T.c.fact (fm 140 rfl))
theorem m_Make_all_settings (T : TT K mg) : Meth K (He.ga K "Make") "all_settings" (He.ma K (He.ga K "Make") "all_settings") := He.meth_ok (T.c.fact (fm 141 rfl))
theorem m_Make_lifetime (T : TT K mg) : Meth K (He.ga K "Make") "lifetime" (He.ma K (He.ga K "Make") "lifetime") := He.meth_ok (T.c.fact (fm 142 rfl))
theorem m_Make_keeps (T : TT K mg) : Meth K (He.ga K "Make") "keeps" (He.ma K (He.ga K "Make") "keeps") := He.meth_ok (T.c.fact (fm 143 rfl))
theorem m_Make_allowance (T : TT K mg) : Meth K (He.ga K "Make") "allowance" (He.ma K (He.ga K "Make") "allowance") := He.meth_ok (T.c.fact (fm 144 rfl))
theorem m_Make_error_allowance (T : TT K mg) : Meth K (He.ga K "Make") "error_allowance" (He.ma K (He.ga K "Make") "error_allowance") := He.meth_ok (T.c.fact (fm 145 rfl))
theorem m_Make_initial_age (T : TT K mg) : Meth K (He.ga K "Make") "initial_age" (He.ma K (He.ga K "Make") "initial_age") := He.meth_ok (T.c.fact (fm 146 rfl))
theorem g_StrictMake (T : TT K mg) : mg "StrictMake" = some (.ref (He.ga K "StrictMake")) := T.glo _ (fm 147 rfl)
theorem c_StrictMake (T : TT K mg) : Cls K (He.ga K "StrictMake") := He.cls_ok (T.c.fact (fm 148 rfl))
theorem k_StrictMake (T : TT K mg) : Mk K (He.ga K "StrictMake") (He.ma K (He.ga K "StrictMake") "__init__") := He.mkr_ok (T.c.fact (fm 149 rfl))
theorem n_StrictMake_shared (T : TT K mg) : NoAttr K (He.ga K "StrictMake") "shared" := He.noat_ok (T.c.fact (fm 150 rfl))
theorem n_StrictMake_grace (T : TT K mg) : NoAttr K (He.ga K "StrictMake") "grace" := He.noat_ok (T.c.fact (fm 151 rfl))
theorem n_StrictMake_error_grace (T : TT K mg) : NoAttr K (He.ga K "StrictMake") "error_grace" := He.noat_ok (T.c.fact (fm 152 rfl))
theorem n_StrictMake_tells (T : TT K mg) : NoAttr K (He.ga K "StrictMake") "tells" := He.noat_ok (T.c.fact (fm 153 rfl))
theorem n_StrictMake_dates (T : TT K mg) : NoAttr K (He.ga K "StrictMake") "dates" := He.noat_ok (T.c.fact (fm 154 rfl))
theorem n_StrictMake_checks (T : TT K mg) : NoAttr K (He.ga K "StrictMake") "checks" := He.noat_ok (T.c.fact (fm 155 rfl))
theorem n_StrictMake_share (T : TT K mg) : NoAttr K (He.ga K "StrictMake") "share" := He.noat_ok (T.c.fact (fm 156 rfl))
theorem n_StrictMake_cap (T : TT K mg) : NoAttr K (He.ga K "StrictMake") "cap" := He.noat_ok (T.c.fact (fm 157 rfl))
theorem n_StrictMake_durable (T : TT K mg) : NoAttr K (He.ga K "StrictMake") "durable" := He.noat_ok (T.c.fact (fm 158 rfl))
theorem n_StrictMake_room (T : TT K mg) : NoAttr K (He.ga K "StrictMake") "room" := He.noat_ok (T.c.fact (fm 159 rfl))
theorem m_StrictMake_allowance (T : TT K mg) : Meth K (He.ga K "StrictMake") "allowance" (He.ma K (He.ga K "StrictMake") "allowance") := He.meth_ok (T.c.fact (fm 160 rfl))
theorem m_StrictMake_error_allowance (T : TT K mg) : Meth K (He.ga K "StrictMake") "error_allowance" (He.ma K (He.ga K "StrictMake") "error_allowance") := He.meth_ok (T.c.fact (fm 161 rfl))
theorem m_StrictMake_all_settings (T : TT K mg) : Meth K (He.ga K "StrictMake") "all_settings" (He.ma K (He.ga K "StrictMake") "all_settings") := He.meth_ok (T.c.fact (fm 162 rfl))
theorem m_StrictMake_lifetime (T : TT K mg) : Meth K (He.ga K "StrictMake") "lifetime" (He.ma K (He.ga K "StrictMake") "lifetime") := He.meth_ok (T.c.fact (fm 163 rfl))
theorem m_StrictMake_keeps (T : TT K mg) : Meth K (He.ga K "StrictMake") "keeps" (He.ma K (He.ga K "StrictMake") "keeps") := He.meth_ok (T.c.fact (fm 164 rfl))
theorem m_StrictMake_initial_age (T : TT K mg) : Meth K (He.ga K "StrictMake") "initial_age" (He.ma K (He.ga K "StrictMake") "initial_age") := He.meth_ok (T.c.fact (fm 165 rfl))
theorem g_OwnMake (T : TT K mg) : mg "OwnMake" = some (.ref (He.ga K "OwnMake")) := T.glo _ (fm 166 rfl)
theorem c_OwnMake (T : TT K mg) : Cls K (He.ga K "OwnMake") := He.cls_ok (T.c.fact (fm 167 rfl))
theorem k_OwnMake (T : TT K mg) : Mk K (He.ga K "OwnMake") (He.ma K (He.ga K "OwnMake") "__init__") := He.mkr_ok (T.c.fact (fm 168 rfl))
theorem n_OwnMake_shared (T : TT K mg) : NoAttr K (He.ga K "OwnMake") "shared" := He.noat_ok (T.c.fact (fm 169 rfl))
theorem n_OwnMake_grace (T : TT K mg) : NoAttr K (He.ga K "OwnMake") "grace" := He.noat_ok (T.c.fact (fm 170 rfl))
theorem n_OwnMake_error_grace (T : TT K mg) : NoAttr K (He.ga K "OwnMake") "error_grace" := He.noat_ok (T.c.fact (fm 171 rfl))
theorem n_OwnMake_tells (T : TT K mg) : NoAttr K (He.ga K "OwnMake") "tells" := He.noat_ok (T.c.fact (fm 172 rfl))
theorem n_OwnMake_dates (T : TT K mg) : NoAttr K (He.ga K "OwnMake") "dates" := He.noat_ok (T.c.fact (fm 173 rfl))
theorem n_OwnMake_checks (T : TT K mg) : NoAttr K (He.ga K "OwnMake") "checks" := He.noat_ok (T.c.fact (fm 174 rfl))
theorem n_OwnMake_share (T : TT K mg) : NoAttr K (He.ga K "OwnMake") "share" := He.noat_ok (T.c.fact (fm 175 rfl))
theorem n_OwnMake_cap (T : TT K mg) : NoAttr K (He.ga K "OwnMake") "cap" := He.noat_ok (T.c.fact (fm 176 rfl))
theorem n_OwnMake_durable (T : TT K mg) : NoAttr K (He.ga K "OwnMake") "durable" := He.noat_ok (T.c.fact (fm 177 rfl))
theorem n_OwnMake_room (T : TT K mg) : NoAttr K (He.ga K "OwnMake") "room" := He.noat_ok (T.c.fact (fm 178 rfl))
theorem m_OwnMake_all_settings (T : TT K mg) : Meth K (He.ga K "OwnMake") "all_settings" (He.ma K (He.ga K "OwnMake") "all_settings") := He.meth_ok (T.c.fact (fm 179 rfl))
theorem m_OwnMake_lifetime (T : TT K mg) : Meth K (He.ga K "OwnMake") "lifetime" (He.ma K (He.ga K "OwnMake") "lifetime") := He.meth_ok (T.c.fact (fm 180 rfl))
theorem m_OwnMake_keeps (T : TT K mg) : Meth K (He.ga K "OwnMake") "keeps" (He.ma K (He.ga K "OwnMake") "keeps") := He.meth_ok (T.c.fact (fm 181 rfl))
theorem m_OwnMake_allowance (T : TT K mg) : Meth K (He.ga K "OwnMake") "allowance" (He.ma K (He.ga K "OwnMake") "allowance") := He.meth_ok (T.c.fact (fm 182 rfl))
theorem m_OwnMake_error_allowance (T : TT K mg) : Meth K (He.ga K "OwnMake") "error_allowance" (He.ma K (He.ga K "OwnMake") "error_allowance") := He.meth_ok (T.c.fact (fm 183 rfl))
theorem m_OwnMake_initial_age (T : TT K mg) : Meth K (He.ga K "OwnMake") "initial_age" (He.ma K (He.ga K "OwnMake") "initial_age") := He.meth_ok (T.c.fact (fm 184 rfl))
theorem x_0 (T : TT K mg) : (He.tupB K "LIFETIME_NAMES" [.str "lasts", .str "shared-lasts"]) = true := xm T 0 rfl
theorem x_1 (T : TT K mg) : (He.tupB K "NUMBER_NAMES" [.str "lasts", .str "shared-lasts", .str "late", .str "on-error", .str "age", .str "fresh"]) = true := xm T 1 rfl
theorem x_2 (T : TT K mg) : (He.tupB K "MARK_WORDS" [.str "strong", .str "weak", .str "none"]) = true := xm T 2 rfl
theorem x_3 (T : TT K mg) : (He5.wrapB K (He.ga K "Directives") "staticmethod" "staticmethod.__get__" "read" && readsB K (He.ga K "Directives")) = true := xm T 3 rfl
theorem x_4 (T : TT K mg) : (propB K (He.ga K "Clock") "span") = true := xm T 4 rfl
theorem x_5 (T : TT K mg) : (propB K (He.ga K "Setting") "hops") = true := xm T 5 rfl
theorem x_6 (T : TT K mg) : (propB K (He.ga K "Setting") "calm") = true := xm T 6 rfl
theorem x_7 (T : TT K mg) : (decide (He.ma K (He.ga K "StrictMake") "__init__" = He.ma K (He.ga K "Make") "__init__")) = true := xm T 7 rfl
theorem x_8 (T : TT K mg) : (decide (He.ma K (He.ga K "StrictMake") "all_settings" = He.ma K (He.ga K "Make") "all_settings")) = true := xm T 8 rfl
theorem x_9 (T : TT K mg) : (decide (He.ma K (He.ga K "StrictMake") "lifetime" = He.ma K (He.ga K "Make") "lifetime")) = true := xm T 9 rfl
theorem x_10 (T : TT K mg) : (decide (He.ma K (He.ga K "StrictMake") "keeps" = He.ma K (He.ga K "Make") "keeps")) = true := xm T 10 rfl
theorem x_11 (T : TT K mg) : (decide (He.ma K (He.ga K "StrictMake") "initial_age" = He.ma K (He.ga K "Make") "initial_age")) = true := xm T 11 rfl
theorem x_12 (T : TT K mg) : (decide (He.ma K (He.ga K "OwnMake") "all_settings" = He.ma K (He.ga K "Make") "all_settings")) = true := xm T 12 rfl
theorem x_13 (T : TT K mg) : (decide (He.ma K (He.ga K "OwnMake") "lifetime" = He.ma K (He.ga K "Make") "lifetime")) = true := xm T 13 rfl
theorem x_14 (T : TT K mg) : (decide (He.ma K (He.ga K "OwnMake") "keeps" = He.ma K (He.ga K "Make") "keeps")) = true := xm T 14 rfl
theorem x_15 (T : TT K mg) : (decide (He.ma K (He.ga K "OwnMake") "allowance" = He.ma K (He.ga K "Make") "allowance")) = true := xm T 15 rfl
theorem x_16 (T : TT K mg) : (decide (He.ma K (He.ga K "OwnMake") "error_allowance" = He.ma K (He.ga K "Make") "error_allowance")) = true := xm T 16 rfl
theorem x_17 (T : TT K mg) : (decide (He.ma K (He.ga K "OwnMake") "initial_age" = He.ma K (He.ga K "Make") "initial_age")) = true := xm T 17 rfl
theorem x_18 (T : TT K mg) : (clB K (He.ma K (He.ga K "OwnMake") "__init__") (He.ga K "OwnMake") (He.ma K (He.ga K "Make") "__init__") PySem.Challenge.pw_hopkeep_k98_alike_is_an_order_of_equals.main.file) = true := xm T 18 rfl
theorem f_consists_of (T : TT K mg) : ∃ fd, FunD K "consists_of" "consists_of" (defArgs s_consists_of) (defBody s_consists_of) (defScope s_consists_of) [] [] (He.ga K "consists_of") fd := T.c.def_ 0 rfl
theorem f_list_elements (T : TT K mg) : ∃ fd, FunD K "list_elements" "list_elements" (defArgs s_list_elements) (defBody s_list_elements) (defScope s_list_elements) [] [] (He.ga K "list_elements") fd := T.c.def_ 1 rfl
theorem f_read_number (T : TT K mg) : ∃ fd, FunD K "read_number" "read_number" (defArgs s_read_number) (defBody s_read_number) (defScope s_read_number) [] [] (He.ga K "read_number") fd := T.c.def_ 2 rfl
theorem f_read_numbered (T : TT K mg) : ∃ fd, FunD K "read_numbered" "read_numbered" (defArgs s_read_numbered) (defBody s_read_numbered) (defScope s_read_numbered) [] [] (He.ga K "read_numbered") fd := T.c.def_ 3 rfl
theorem f_least_numbers (T : TT K mg) : ∃ fd, FunD K "least_numbers" "least_numbers" (defArgs s_least_numbers) (defBody s_least_numbers) (defScope s_least_numbers) [] [] (He.ga K "least_numbers") fd := T.c.def_ 4 rfl
theorem f_Directives__init (T : TT K mg) : ∃ fd, FunD K "__init__" "Directives.__init__" (defArgs s_Directives__init) (defBody s_Directives__init) (defScope s_Directives__init) [] [] (He.ma K (He.ga K "Directives") "__init__") fd := T.c.def_ 5 rfl
theorem f_Directives_read (T : TT K mg) : ∃ fd, FunD K "read" "Directives.read" (defArgs s_Directives_read) (defBody s_Directives_read) (defScope s_Directives_read) [] [] (He5.wf K (He.ga K "Directives") "staticmethod" "read") fd := T.c.def_ 6 rfl
theorem f_Directives_of (T : TT K mg) : ∃ fd, FunD K "of" "Directives.of" (defArgs s_Directives_of) (defBody s_Directives_of) (defScope s_Directives_of) [] [] (He5.wf K (He.ga K "Directives") "classmethod" "of") fd := T.c.def_ 7 rfl
theorem f_is_allowed (T : TT K mg) : ∃ fd, FunD K "is_allowed" "is_allowed" (defArgs s_is_allowed) (defBody s_is_allowed) (defScope s_is_allowed) [] [] (He.ga K "is_allowed") fd := T.c.def_ 8 rfl
theorem f_is_allowed_or_none (T : TT K mg) : ∃ fd, FunD K "is_allowed_or_none" "is_allowed_or_none" (defArgs s_is_allowed_or_none) (defBody s_is_allowed_or_none) (defScope s_is_allowed_or_none) [] [] (He.ga K "is_allowed_or_none") fd := T.c.def_ 9 rfl
theorem f_Kind__init (T : TT K mg) : ∃ fd, FunD K "__init__" "Kind.__init__" (defArgs s_Kind__init) (defBody s_Kind__init) (defScope s_Kind__init) [] [(("shared_lasts" : Str), V.non), (("late" : Str), V.int (0)), (("on_error" : Str), V.int (0)), (("strict" : Str), V.bl false), (("check" : Str), V.bl false), (("own" : Str), V.bl false), (("never" : Str), V.bl false), (("mark" : Str), V.str "strong"), (("dated" : Str), V.bl false), (("margin" : Str), V.int (0))] (He.ma K (He.ga K "Kind") "__init__") fd := T.c.def_ 10 rfl
theorem f_Kind_keep_field (T : TT K mg) : ∃ fd, FunD K "keep_field" "Kind.keep_field" (defArgs s_Kind_keep_field) (defBody s_Kind_keep_field) (defScope s_Kind_keep_field) [] [] (He.ma K (He.ga K "Kind") "keep_field") fd := T.c.def_ 11 rfl
theorem f_kind_directives (T : TT K mg) : ∃ fd, FunD K "kind_directives" "kind_directives" (defArgs s_kind_directives) (defBody s_kind_directives) (defScope s_kind_directives) [] [] (He.ga K "kind_directives") fd := T.c.def_ 12 rfl
theorem f_tells_lifetime (T : TT K mg) : ∃ fd, FunD K "tells_lifetime" "tells_lifetime" (defArgs s_tells_lifetime) (defBody s_tells_lifetime) (defScope s_tells_lifetime) [] [] (He.ga K "tells_lifetime") fd := T.c.def_ 13 rfl
theorem f_serve_limit (T : TT K mg) : ∃ fd, FunD K "serve_limit" "serve_limit" (defArgs s_serve_limit) (defBody s_serve_limit) (defScope s_serve_limit) [] [(("on_error" : Str), V.bl false)] (He.ga K "serve_limit") fd := T.c.def_ 14 rfl
theorem f_Clock__init (T : TT K mg) : ∃ fd, FunD K "__init__" "Clock.__init__" (defArgs s_Clock__init) (defBody s_Clock__init) (defScope s_Clock__init) [V.int (0), V.int (0)] [] (He.ma K (He.ga K "Clock") "__init__") fd := T.c.def_ 15 rfl
theorem f_Clock_span (T : TT K mg) : ∃ fd, FunD K "span" "Clock.span" (defArgs s_Clock_span) (defBody s_Clock_span) (defScope s_Clock_span) [] [] (He5.wf K (He.ga K "Clock") "property" "span") fd := T.c.def_ 16 rfl
theorem f_Clock_reading (T : TT K mg) : ∃ fd, FunD K "reading" "Clock.reading" (defArgs s_Clock_reading) (defBody s_Clock_reading) (defScope s_Clock_reading) [] [] (He.ma K (He.ga K "Clock") "reading") fd := T.c.def_ 17 rfl
theorem f_Setting__init (T : TT K mg) : ∃ fd, FunD K "__init__" "Setting.__init__" (defArgs s_Setting__init) (defBody s_Setting__init) (defScope s_Setting__init) [] [(("clocks" : Str), V.non), (("delays" : Str), V.non), (("loses" : Str), V.bl false)] (He.ma K (He.ga K "Setting") "__init__") fd := T.c.def_ 18 rfl
theorem f_Setting_hops (T : TT K mg) : ∃ fd, FunD K "hops" "Setting.hops" (defArgs s_Setting_hops) (defBody s_Setting_hops) (defScope s_Setting_hops) [] [] (He5.wf K (He.ga K "Setting") "property" "hops") fd := T.c.def_ 19 rfl
theorem f_Setting_calm (T : TT K mg) : ∃ fd, FunD K "calm" "Setting.calm" (defArgs s_Setting_calm) (defBody s_Setting_calm) (defScope s_Setting_calm) [] [] (He5.wf K (He.ga K "Setting") "property" "calm") fd := T.c.def_ 20 rfl
theorem f_Setting_part (T : TT K mg) : ∃ fd, FunD K "part" "Setting.part" (defArgs s_Setting_part) (defBody s_Setting_part) (defScope s_Setting_part) [] [] (He.ma K (He.ga K "Setting") "part") fd := T.c.def_ 21 rfl
theorem f_limits (T : TT K mg) : ∃ fd, FunD K "limits" "limits" (defArgs s_limits) (defBody s_limits) (defScope s_limits) [] [] (He.ga K "limits") fd := T.c.def_ 22 rfl
theorem f_keeps_kind (T : TT K mg) : ∃ fd, FunD K "keeps_kind" "keeps_kind" (defArgs s_keeps_kind) (defBody s_keeps_kind) (defScope s_keeps_kind) [] [] (He.ga K "keeps_kind") fd := T.c.def_ 23 rfl
theorem f_checking_hops (T : TT K mg) : ∃ fd, FunD K "checking_hops" "checking_hops" (defArgs s_checking_hops) (defBody s_checking_hops) (defScope s_checking_hops) [] [] (He.ga K "checking_hops") fd := T.c.def_ 24 rfl
theorem f_sound (T : TT K mg) : ∃ fd, FunD K "sound" "sound" (defArgs s_sound) (defBody s_sound) (defScope s_sound) [] [] (He.ga K "sound") fd := T.c.def_ 25 rfl
theorem f_need_calm (T : TT K mg) : ∃ fd, FunD K "need_calm" "need_calm" (defArgs s_need_calm) (defBody s_need_calm) (defScope s_need_calm) [] [] (He.ga K "need_calm") fd := T.c.def_ 26 rfl
theorem f_calm_chain (T : TT K mg) : ∃ fd, FunD K "calm_chain" "calm_chain" (defArgs s_calm_chain) (defBody s_calm_chain) (defScope s_calm_chain) [] [] (He.ga K "calm_chain") fd := T.c.def_ 27 rfl
theorem f_is_count (T : TT K mg) : ∃ fd, FunD K "is_count" "is_count" (defArgs s_is_count) (defBody s_is_count) (defScope s_is_count) [] [] (He.ga K "is_count") fd := T.c.def_ 28 rfl
theorem f_is_entry (T : TT K mg) : ∃ fd, FunD K "is_entry" "is_entry" (defArgs s_is_entry) (defBody s_is_entry) (defScope s_is_entry) [] [] (He.ga K "is_entry") fd := T.c.def_ 29 rfl
theorem f_is_state (T : TT K mg) : ∃ fd, FunD K "is_state" "is_state" (defArgs s_is_state) (defBody s_is_state) (defScope s_is_state) [] [] (He.ga K "is_state") fd := T.c.def_ 30 rfl
theorem f_empty_state (T : TT K mg) : ∃ fd, FunD K "empty_state" "empty_state" (defArgs s_empty_state) (defBody s_empty_state) (defScope s_empty_state) [] [] (He.ga K "empty_state") fd := T.c.def_ 31 rfl
theorem f_waited (T : TT K mg) : ∃ fd, FunD K "waited" "waited" (defArgs s_waited) (defBody s_waited) (defScope s_waited) [] [] (He.ga K "waited") fd := T.c.def_ 32 rfl
theorem f_after_wait (T : TT K mg) : ∃ fd, FunD K "after_wait" "after_wait" (defArgs s_after_wait) (defBody s_after_wait) (defScope s_after_wait) [] [] (He.ga K "after_wait") fd := T.c.def_ 33 rfl
theorem f_after_change (T : TT K mg) : ∃ fd, FunD K "after_change" "after_change" (defArgs s_after_change) (defBody s_after_change) (defScope s_after_change) [] [] (He.ga K "after_change") fd := T.c.def_ 34 rfl
theorem f_after_stop (T : TT K mg) : ∃ fd, FunD K "after_stop" "after_stop" (defArgs s_after_stop) (defBody s_after_stop) (defScope s_after_stop) [] [] (He.ga K "after_stop") fd := T.c.def_ 35 rfl
theorem f_after_ask (T : TT K mg) : ∃ fd, FunD K "after_ask" "after_ask" (defArgs s_after_ask) (defBody s_after_ask) (defScope s_after_ask) [] [] (He.ga K "after_ask") fd := T.c.def_ 36 rfl
theorem f_stepped (T : TT K mg) : ∃ fd, FunD K "stepped" "stepped" (defArgs s_stepped) (defBody s_stepped) (defScope s_stepped) [] [] (He.ga K "stepped") fd := T.c.def_ 37 rfl
theorem f_with_ranks (T : TT K mg) : ∃ fd, FunD K "with_ranks" "with_ranks" (defArgs s_with_ranks) (defBody s_with_ranks) (defScope s_with_ranks) [] [] (He.ga K "with_ranks") fd := T.c.def_ 38 rfl
theorem f_joined_state (T : TT K mg) : ∃ fd, FunD K "joined_state" "joined_state" (defArgs s_joined_state) (defBody s_joined_state) (defScope s_joined_state) [] [] (He.ga K "joined_state") fd := T.c.def_ 39 rfl
theorem f_common_hops (T : TT K mg) : ∃ fd, FunD K "common_hops" "common_hops" (defArgs s_common_hops) (defBody s_common_hops) (defScope s_common_hops) [] [] (He.ga K "common_hops") fd := T.c.def_ 40 rfl
theorem f_common_events (T : TT K mg) : ∃ fd, FunD K "common_events" "common_events" (defArgs s_common_events) (defBody s_common_events) (defScope s_common_events) [] [] (He.ga K "common_events") fd := T.c.def_ 41 rfl
theorem f_told_alike (T : TT K mg) : ∃ fd, FunD K "told_alike" "told_alike" (defArgs s_told_alike) (defBody s_told_alike) (defScope s_told_alike) [] [] (He.ga K "told_alike") fd := T.c.def_ 42 rfl
theorem f_step_both (T : TT K mg) : ∃ fd, FunD K "step_both" "step_both" (defArgs s_step_both) (defBody s_step_both) (defScope s_step_both) [] [] (He.ga K "step_both") fd := T.c.def_ 43 rfl
theorem f_empty_pair (T : TT K mg) : ∃ fd, FunD K "empty_pair" "empty_pair" (defArgs s_empty_pair) (defBody s_empty_pair) (defScope s_empty_pair) [] [] (He.ga K "empty_pair") fd := T.c.def_ 44 rfl
theorem f_story_to (T : TT K mg) : ∃ fd, FunD K "story_to" "story_to" (defArgs s_story_to) (defBody s_story_to) (defScope s_story_to) [] [] (He.ga K "story_to") fd := T.c.def_ 45 rfl
theorem f_compare (T : TT K mg) : ∃ fd, FunD K "compare" "compare" (defArgs s_compare) (defBody s_compare) (defScope s_compare) [] [(("ages" : Str), V.bl true)] (He.ga K "compare") fd := T.c.def_ 46 rfl
theorem f_is_pair_of_states (T : TT K mg) : ∃ fd, FunD K "is_pair_of_states" "is_pair_of_states" (defArgs s_is_pair_of_states) (defBody s_is_pair_of_states) (defScope s_is_pair_of_states) [] [] (He.ga K "is_pair_of_states") fd := T.c.def_ 47 rfl
theorem f_is_alike (T : TT K mg) : ∃ fd, FunD K "is_alike" "is_alike" (defArgs s_is_alike) (defBody s_is_alike) (defScope s_is_alike) [] [(("ages" : Str), V.bl true)] (He.ga K "is_alike") fd := T.c.def_ 48 rfl
theorem f_number_or_zero (T : TT K mg) : ∃ fd, FunD K "number_or_zero" "number_or_zero" (defArgs s_number_or_zero) (defBody s_number_or_zero) (defScope s_number_or_zero) [] [] (He.ga K "number_or_zero") fd := T.c.def_ 49 rfl
theorem f_Make__init (T : TT K mg) : ∃ fd, FunD K "__init__" "Make.__init__" (defArgs s_Make__init) (defBody s_Make__init) (defScope s_Make__init) [] [(("shared" : Str), V.bl true), (("grace" : Str), V.int (0)), (("error_grace" : Str), V.int (0)), (("tells" : Str), V.bl true), (("dates" : Str), V.bl false), (("checks" : Str), V.bl true), (("share" : Str), V.int (0)), (("cap" : Str), V.int (0)), (("durable" : Str), V.bl false), (("room" : Str), V.int (8))] (He.ma K (He.ga K "Make") "__init__") fd := T.c.def_ 50 rfl
theorem f_Make_all_settings (T : TT K mg) : ∃ fd, FunD K "all_settings" "Make.all_settings" (defArgs s_Make_all_settings) (defBody s_Make_all_settings) (defScope s_Make_all_settings) [] [] (He.ma K (He.ga K "Make") "all_settings") fd := T.c.def_ 51 rfl
theorem f_Make__eq (T : TT K mg) : ∃ fd, FunD K "__eq__" "Make.__eq__" (defArgs s_Make__eq) (defBody s_Make__eq) (defScope s_Make__eq) [] [] (He.ma K (He.ga K "Make") "__eq__") fd := T.c.def_ 52 rfl
theorem f_Make_lifetime (T : TT K mg) : ∃ fd, FunD K "lifetime" "Make.lifetime" (defArgs s_Make_lifetime) (defBody s_Make_lifetime) (defScope s_Make_lifetime) [] [] (He.ma K (He.ga K "Make") "lifetime") fd := T.c.def_ 53 rfl
theorem f_Make_keeps (T : TT K mg) : ∃ fd, FunD K "keeps" "Make.keeps" (defArgs s_Make_keeps) (defBody s_Make_keeps) (defScope s_Make_keeps) [] [] (He.ma K (He.ga K "Make") "keeps") fd := T.c.def_ 54 rfl
theorem f_Make_allowance (T : TT K mg) : ∃ fd, FunD K "allowance" "Make.allowance" (defArgs s_Make_allowance) (defBody s_Make_allowance) (defScope s_Make_allowance) [] [] (He.ma K (He.ga K "Make") "allowance") fd := T.c.def_ 55 rfl
theorem f_Make_error_allowance (T : TT K mg) : ∃ fd, FunD K "error_allowance" "Make.error_allowance" (defArgs s_Make_error_allowance) (defBody s_Make_error_allowance) (defScope s_Make_error_allowance) [] [] (He.ma K (He.ga K "Make") "error_allowance") fd := T.c.def_ 56 rfl
theorem f_Make_initial_age (T : TT K mg) : ∃ fd, FunD K "initial_age" "Make.initial_age" (defArgs s_Make_initial_age) (defBody s_Make_initial_age) (defScope s_Make_initial_age) [] [] (He.ma K (He.ga K "Make") "initial_age") fd := T.c.def_ 57 rfl
theorem f_StrictMake_allowance (T : TT K mg) : ∃ fd, FunD K "allowance" "StrictMake.allowance" (defArgs s_StrictMake_allowance) (defBody s_StrictMake_allowance) (defScope s_StrictMake_allowance) [] [] (He.ma K (He.ga K "StrictMake") "allowance") fd := T.c.def_ 58 rfl
theorem f_StrictMake_error_allowance (T : TT K mg) : ∃ fd, FunD K "error_allowance" "StrictMake.error_allowance" (defArgs s_StrictMake_error_allowance) (defBody s_StrictMake_error_allowance) (defScope s_StrictMake_error_allowance) [] [] (He.ma K (He.ga K "StrictMake") "error_allowance") fd := T.c.def_ 59 rfl
theorem f_law_bag (T : TT K mg) : ∃ fd, FunD K "_law_bag" "_law_bag" (defArgs s_law_bag) (defBody s_law_bag) (defScope s_law_bag) [] [] (He.ga K "_law_bag") fd := T.c.def_ 60 rfl
theorem f_law_take (T : TT K mg) : ∃ fd, FunD K "_law_take" "_law_take" (defArgs s_law_take) (defBody s_law_take) (defScope s_law_take) [] [] (He.ga K "_law_take") fd := T.c.def_ 61 rfl
theorem f_law_profile (T : TT K mg) : ∃ fd, FunD K "_law_profile" "_law_profile" (defArgs s_law_profile) (defBody s_law_profile) (defScope s_law_profile) [] [] (He.ga K "_law_profile") fd := T.c.def_ 62 rfl
theorem f_law_other (T : TT K mg) : ∃ fd, FunD K "_law_other" "_law_other" (defArgs s_law_other) (defBody s_law_other) (defScope s_law_other) [] [] (He.ga K "_law_other") fd := T.c.def_ 63 rfl
theorem f_law_make (T : TT K mg) : ∃ fd, FunD K "_law_make" "_law_make" (defArgs s_law_make) (defBody s_law_make) (defScope s_law_make) [] [] (He.ga K "_law_make") fd := T.c.def_ 64 rfl
theorem f_law_setting (T : TT K mg) : ∃ fd, FunD K "_law_setting" "_law_setting" (defArgs s_law_setting) (defBody s_law_setting) (defScope s_law_setting) [] [] (He.ga K "_law_setting") fd := T.c.def_ 65 rfl
theorem f_law_asked (T : TT K mg) : ∃ fd, FunD K "_law_asked" "_law_asked" (defArgs s_law_asked) (defBody s_law_asked) (defScope s_law_asked) [] [] (He.ga K "_law_asked") fd := T.c.def_ 66 rfl
theorem f_law_older (T : TT K mg) : ∃ fd, FunD K "_law_older" "_law_older" (defArgs s_law_older) (defBody s_law_older) (defScope s_law_older) [] [] (He.ga K "_law_older") fd := T.c.def_ 67 rfl
theorem f_law_is_step (T : TT K mg) : ∃ fd, FunD K "_law_is_step" "_law_is_step" (defArgs s_law_is_step) (defBody s_law_is_step) (defScope s_law_is_step) [] [] (He.ga K "_law_is_step") fd := T.c.def_ 68 rfl
theorem f_law_tellings (T : TT K mg) : ∃ fd, FunD K "_law_tellings" "_law_tellings" (defArgs s_law_tellings) (defBody s_law_tellings) (defScope s_law_tellings) [] [] (He.ga K "_law_tellings") fd := T.c.def_ 69 rfl
theorem f_law_parted (T : TT K mg) : ∃ fd, FunD K "_law_parted" "_law_parted" (defArgs s_law_parted) (defBody s_law_parted) (defScope s_law_parted) [] [] (He.ga K "_law_parted") fd := T.c.def_ 70 rfl
theorem f_law_is_verdict (T : TT K mg) : ∃ fd, FunD K "_law_is_verdict" "_law_is_verdict" (defArgs s_law_is_verdict) (defBody s_law_is_verdict) (defScope s_law_is_verdict) [] [] (He.ga K "_law_is_verdict") fd := T.c.def_ 71 rfl
theorem f_law_like (T : TT K mg) : ∃ fd, FunD K "_law_like" "_law_like" (defArgs s_law_like) (defBody s_law_like) (defScope s_law_like) [] [] (He.ga K "_law_like") fd := T.c.def_ 72 rfl
theorem f_law_both_ways (T : TT K mg) : ∃ fd, FunD K "_law_both_ways" "_law_both_ways" (defArgs s_law_both_ways) (defBody s_law_both_ways) (defScope s_law_both_ways) [] [] (He.ga K "_law_both_ways") fd := T.c.def_ 73 rfl
theorem f_law_through (T : TT K mg) : ∃ fd, FunD K "_law_through" "_law_through" (defArgs s_law_through) (defBody s_law_through) (defScope s_law_through) [] [] (He.ga K "_law_through") fd := T.c.def_ 74 rfl
theorem f_law (T : TT K mg) : ∃ fd, FunD K "law" "law" (defArgs s_law) (defBody s_law) (defScope s_law) [] [] (He.ga K "law") fd := T.c.def_ 75 rfl
theorem f_OwnMake__init (T : TT K mg) : He6.FunC K "__init__" "OwnMake.__init__" (defArgs s_OwnMake__init) (defBody s_OwnMake__init) (defScope s_OwnMake__init) [] [(("shared" : Str), V.bl false), (("grace" : Str), V.int (0)), (("error_grace" : Str), V.int (0)), (("tells" : Str), V.bl true), (("dates" : Str), V.bl false), (("checks" : Str), V.bl true), (("share" : Str), V.int (0)), (("cap" : Str), V.int (0)), (("durable" : Str), V.bl false), (("room" : Str), V.int (8))] (He.ma K (He.ga K "OwnMake") "__init__") := T.c.cdef 0 rfl
end
/-! ### a def's promise by its body -/
section
variable {P : Program} {w : World} {K : PySem.W.Frag} {mg : Str → Option Value} {base : Heap}
theorem cal_of {x qual : Str} {st : Stmt} {f : Addr} {N ps : List Str} {k : Nat} {sp : Sp} (F : ∃ fd, FunD K x qual (defArgs st) (defBody st) (defScope st) [] [] f fd) (hm : mg x = some (.ref f)) (S : FnScope N ps (defScope st))
    (hb : ∀ (kV doc pm : Value) (an : Option Addr) (cdv ct : Value) (us : List Value), us.length = ps.length → bindArgs (PySem.W.fnOf x qual (defArgs st) (defBody st) (defScope st) .none kV doc pm an cdv ct) ⟨us, []⟩ = pure (ps.zip us))
    (len : ∀ vs H Q E, sp vs H Q E → vs.length = ps.length)
    (hbody : ∀ (cdv : Value) (A : Around) (outer : List Env) (s : Shared) (H : Hp) (vs : List V) (Q : VK) (E : XK), Room k (A.deeper (envOfC qual (defScope st) s.heap.objs.size f cdv)) → sp vs H Q E →
      ∃ t, PSs (cxOf CX0 P w K mg base N qual (defScope st) f cdv A outer s H E).nox (defBody st) t ∧ t { nx := fun _ H' => Q .non H', rt := Q } (start N vs) H) : Cal P w K mg base (k + 1) x sp [] := by
  obtain ⟨fd, F⟩ := F
  refine ⟨f, fd, ps, [], F.ok S len (fun cdv A outer s H vs Q E hr h => ?_), hm, F.kp, F.bindsN hb, .nil⟩
  obtain ⟨t, h1, h2⟩ := hbody cdv A outer s H vs Q E hr h
  exact ⟨t, h1.nox, h2⟩
/-- a method, over the classes that have it -/
theorem met_of {x qual : Str} {st : Stmt} {C f : Addr} {N ps : List Str} {k : Nat} {sp : Sp} (F : ∃ fd, FunD K x qual (defArgs st) (defBody st) (defScope st) [] [] f fd) (hc : Cls K C) (hm : Meth K C x f) (S : FnScope N ps (defScope st))
    (hb : ∀ (kV doc pm : Value) (an : Option Addr) (cdv ct : Value) (us : List Value), us.length = ps.length → bindArgs (PySem.W.fnOf x qual (defArgs st) (defBody st) (defScope st) .none kV doc pm an cdv ct) ⟨us, []⟩ = pure (ps.zip us))
    (len : ∀ vs H Q E, sp vs H Q E → vs.length = ps.length)
    (hbody : ∀ (cdv : Value) (A : Around) (outer : List Env) (s : Shared) (H : Hp) (vs : List V) (Q : VK) (E : XK), Room k (A.deeper (envOfC qual (defScope st) s.heap.objs.size f cdv)) → sp vs H Q E →
      ∃ t, PSs (cxOf CX0 P w K mg base N qual (defScope st) f cdv A outer s H E).nox (defBody st) t ∧ t { nx := fun _ H' => Q .non H', rt := Q } (start N vs) H) : MetS P w K mg base (k + 1) C x sp := by
  obtain ⟨fd, F⟩ := F
  refine ⟨f, fd, ps, hc, hm, F.ok S len (fun cdv A outer s H vs Q E hr h => ?_), F.bindsN hb⟩
  obtain ⟨t, h1, h2⟩ := hbody cdv A outer s H vs Q E hr h
  exact ⟨t, h1.nox, h2⟩
end
end K98
set_option Elab.async false
set_option linter.all false
set_option maxRecDepth 100000
set_option maxHeartbeats 4000000
namespace K98
open PySem PySem.Spec PyProof.Rows L2 Ru He6
open C8 (Cal pe_c)

/-! ### what the rows are: plain data -/
/-- a kept entry: behind, age, since -/
abbrev Ent := Option (Int × Int × Int)
abbrev Row := List Ent
structure Hop where
  lim : Int
  tells : Bool
  dates : Bool
abbrev Chain := List Hop
def dE : Ent → PyData
  | none => .none
  | some (b, a, s) => .tuple [.int b, .int a, .int s]
def dS (st : Row) : PyData := .tuple (st.map dE)
/-- a make: which class, its settings -/
structure MakeD where
  tag : Nat
  shared : Bool
  grace : Int
  egrace : Int
  tells : Bool
  dates : Bool
  checks : Bool
  share : Int
  cap : Int
  durable : Bool
  room : Int
def clsOf (K : PySem.W.Frag) : Nat → Addr
  | 0 => He.ga K "Make"
  | 1 => He.ga K "StrictMake"
  | _ => He.ga K "OwnMake"
def mkF (m : MakeD) : List (Str × V) := [("shared", .bl m.shared), ("grace", .int m.grace), ("error_grace", .int m.egrace), ("tells", .bl m.tells), ("dates", .bl m.dates), ("checks", .bl m.checks), ("share", .int m.share), ("cap", .int m.cap), ("durable", .bl m.durable), ("room", .int m.room)]
theorem mkF_tells (m : MakeD) : (mkF m).lookup ("tells" : Str) = some (.bl m.tells) := by kernel_rfl
theorem mkF_dates (m : MakeD) : (mkF m).lookup ("dates" : Str) = some (.bl m.dates) := by kernel_rfl
theorem mkF_none (m : MakeD) : (mkF m).lookup ("initial_age" : Str) = none := by kernel_rfl
example (m : MakeD) : putF "room" (.int m.room) (putF "durable" (.bl m.durable) (putF "cap" (.int m.cap) (putF "share" (.int m.share) (putF "checks" (.bl m.checks) (putF "dates" (.bl m.dates) (putF "tells" (.bl m.tells) (putF "error_grace" (.int m.egrace) (putF "grace" (.int m.grace) (putF "shared" (.bl m.shared) []))))))))) = mkF m := by kernel_rfl
def MakeAt (K : PySem.W.Frag) (H : Hp) (a : Addr) (m : MakeD) : Prop := ∃ dx, H a = some (.ins (clsOf K m.tag) dx (mkF m))

end K98
set_option Elab.async false
set_option linter.all false
set_option maxRecDepth 100000
set_option maxHeartbeats 4000000
namespace Ru
open PySem PySem.Spec PyProof.Rows L2
/-! ### a tuple times one: itself -/
theorem tuple_mul1 (l : Addr) (items : Array Value) (n : Nat) (dd : Option Addr) (sl : Array (Option Value)) (u : Tok) (c1 : (items.isEmpty || (1 : Int) == 1) = true) :
    Meets (Builtin.«tuple.__mul__» ⟨[.ref l, .int 1 u], []⟩) (fun _ R s => s.heap.get? l = some { cls := .type "tuple", dict := dd, data := .seq items n, slots := sl } ∧ R (.ok (.ret (Value.ref l))) s) :=
  .of_wp fun prog w A R s h => by
    obtain ⟨hp, g, d, tk, os⟩ := s
    obtain ⟨hl, h⟩ := h
    have f1 := AutoSeq1.idx_int
    wp_walk using wpAny_loadPart' hl
    repeat (first
      | (refine wpAny_ite_true (decide_eq_true c1) ?_; wp_walk using wpAny_loadPart' hl)
      | (refine wpAny_ite_false (decide_eq_false (by decide)) ?_; wp_walk using wpAny_loadPart' hl))
    exact ⟨_, rfl, h⟩
def rRep1 (K : PySem.W.Frag) : R2 := fun x y H Q => ∃ l k xs, x = .ref l ∧ y = .int k ∧ SqT K H l xs ∧ xs ≠ [] ∧ xs.length ≤ 1000 ∧ ((k = 1 ∧ Q (.ref l) H) ∨ (2 ≤ k ∧ k ≤ 1000 ∧ ∀ p, H p = none → Q (.ref p) (upd H p (.tup (List.replicate k.toNat xs).flatten))))
section
variable {X : Cx}
theorem op_rep1 : OpR X (binaryOp .Mult) (rRep1 X.K) := by
  intro pins s σ H x y v u Q I rx ry h
  obtain ⟨l, k, xs, rfl, rfl, hT, hne, hz, h⟩ := h
  rcases h with ⟨rfl, q⟩ | ⟨h1, h2, q⟩
  · cases rx
    obtain ⟨t, rfl⟩ := ry
    obtain ⟨its, r, ⟨⟨cls, dd, data, sl⟩, ho, hc, n, hd⟩, hs⟩ := I.tuple hT
    simp only at hc hd
    subst hc hd
    exact wpAny_binaryOp_repeat_ref (T := "tuple") (U := "int") (by decide) ⟨_, ho, rfl⟩ (fun s' => typeIs_int s' 1 t) noFill_tuple_mul F.fills_int_mul F.slot_int_rmul repeat_tuple F.slot_int_index.lookup
      (call_meets F.slot_int_rmul (typeIs_int s 1 t) F.entry_int_rmul (F.args_int_rmul_2 _ _) (int_rmul_tuple 1 t l its.toArray n dd sl)
        ⟨ho, rfl, ⟨_, ho, rfl⟩, call_meets F.slot_tuple_mul ⟨_, ho, rfl⟩ F.entry_tuple_mul (F.args_tuple_mul_2 _ _) (tuple_mul1 l its.toArray n dd sl t (by simp)) ⟨ho, ⟨.ref l, H, I, rfl, q⟩⟩⟩)
  · exact op_repT pins s σ H (.ref l) (.int k) v u Q I rx ry ⟨l, k, xs, rfl, rfl, hT, hne, h1, h2, hz, q⟩
end
/-! ### while, in continuation style -/
theorem while_c {c : TT} {tb : TS} {D : Ends} {σ : L2.St} {H : Hp} (Pv : L2.St → Hp → Prop) (μ : L2.St → Hp → Nat) (h0 : Pv σ H)
    (hs : ∀ σ H, Pv σ H → ∃ b : Bool, (∀ Z : Bool → Hp → Prop, Z b H → c σ H Z) ∧ (b = true → tb { D with nx := fun σ' H' => Pv σ' H' ∧ μ σ' H' < μ σ H, ct := fun σ' H' => Pv σ' H' ∧ μ σ' H' < μ σ H, bk := D.nx } σ H) ∧ (b = false → D.nx σ H)) : tWhile c tb D σ H := by
  refine ⟨fun m σ H => m = μ σ H ∧ Pv σ H, ⟨_, rfl, h0⟩, ?_⟩
  rintro m σ H ⟨rfl, p⟩
  obtain ⟨b, h1, h2, h3⟩ := hs σ H p
  refine h1 _ ?_
  cases b with
  | true =>
    rw [if_pos rfl]
    exact ⟨_, fun σ' H' ⟨p', l⟩ => ⟨_, l, rfl, p'⟩, h2 rfl⟩
  | false => rw [if_neg Bool.false_ne_true]; exact h3 rfl
end Ru
set_option Elab.async false
set_option linter.all false
set_option maxRecDepth 100000
set_option maxHeartbeats 4000000
namespace Ru
open PySem PySem.Spec PyProof.Rows L2
section
variable {X : Cx}
theorem ix_nget (hu : X.A.units + 64 < cLine) : IxR X (rNGet X.prog X.w X.K) := by
  intro value slice pins s σ H x y v u Q I rx ry h hs
  obtain ⟨a, d, xs, k, z, rfl, rfl, hd, hk, ha, hl, q⟩ := h
  obtain ⟨hs0, ys, hp, hm⟩ := nd_get I hd hk
  obtain ⟨o, es, ep, ho, hx, hdt, _⟩ := id hm
  obtain rfl : v = Value.ref d := rx
  have g := op_nget hu pins s σ H (.ref d) (.ref a) (.ref d) u Q I rfl ry ⟨a, d, xs, k, z, rfl, rfl, hd, hk, ha, hl, q⟩
  exact tail_any ⟨o, ho, hx.1⟩ slot_dict_getitem.lookup g hs
end
end Ru
set_option Elab.async false
set_option linter.all false
set_option maxRecDepth 100000
set_option maxHeartbeats 4000000
namespace K98
open PySem PySem.Spec PyProof.Rows L2 Ru He6

/-! ### heaps that keep all but lists -/
def notL : HO → Prop
  | .lst _ => False
  | .ext _ => False
  | _ => True
def SameL (H H' : Hp) : Prop := ∀ a o, H a = some o → notL o → H' a = some o
theorem SameL.refl (H : Hp) : SameL H H := fun _ _ e _ => e
theorem SameL.trans {H1 H2 H3 : Hp} (a : SameL H1 H2) (b : SameL H2 H3) : SameL H1 H3 := fun p o e n => b p o (a p o e n) n
theorem SameL.of {H H' : Hp} (e : Same H H') : SameL H H' := fun p o h _ => e p o h
theorem SameL.mut {H H' : Hp} {D : Addr} {ys zs : List V} (e : SameL H H') (h : H' D = some (.lst ys)) : SameL H (upd H' D (.lst zs)) := fun p o hp n => by
  have h1 := e p o hp n
  by_cases c : p = D
  · subst c; rw [h] at h1; cases h1; exact n.elim
  · rw [upd_ne c]; exact h1
theorem SameL.mutX {H H' : Hp} {D : Addr} {f : Heap → Prop} {o : HO} (e : SameL H H') (h : H' D = some (.ext f)) : SameL H (upd H' D o) := fun p q hp n => by
  have h1 := e p q hp n
  by_cases c : p = D
  · subst c; rw [h] at h1; cases h1; exact n.elim
  · rw [upd_ne c]; exact h1
theorem SameL.put {H H' : Hp} {D : Addr} {ys zs : List V} (e : SameL H H') (h : H D = some (.lst ys)) : SameL H (upd H' D (.lst zs)) := fun p o hp n => by
  by_cases c : p = D
  · subst c; rw [h] at hp; cases hp; exact n.elim
  · rw [upd_ne c]; exact e p o hp n
theorem SameL.fresh {H H' : Hp} {D : Addr} {o : HO} (e : SameL H H') (h : H D = none) : SameL H (upd H' D o) := fun p q hp n => by
  rw [upd_ne (ne_of_none hp h)]; exact e p q hp n
theorem sqT_L {K : PySem.W.Frag} {H H' : Hp} {a : Addr} {xs : List V} (e : SameL H H') (h : SqT K H a xs) : SqT K H' a xs := by
  rcases h with h | h
  · exact .inl (h.elim (fun h => .inl (e _ _ h trivial)) (fun ⟨o, h⟩ => .inr ⟨o, e _ _ h trivial⟩))
  · exact .inr h
mutual
def noL : PyData → Bool
  | .list _ => false
  | .tuple ds => noLs ds
  | _ => true
def noLs : List PyData → Bool
  | [] => true
  | d :: ds => noL d && noLs ds
end
mutual
theorem Dp.monoL {K : PySem.W.Frag} {H H' : Hp} (e : SameL H H') : ∀ (d : PyData) (v : V), noL d = true → Dp K H v d → Dp K H' v d
  | .none, _, _, h => by cases h; exact .non
  | .bool b, _, _, h => by cases h; exact .bl b
  | .int i, _, _, h => by cases h; exact .int i
  | .str x, _, _, h => by cases h; exact .str x
  | .list ds, _, n, h => by cases n
  | .tuple ds, _, n, h => by
    cases h with
    | tup hs ha => exact .tup (sqT_L e hs) (Dp.monoLs e ds _ (by simpa [noL] using n) ha)
  | .dict _, _, _, h => by cases h
theorem Dp.monoLs {K : PySem.W.Frag} {H H' : Hp} (e : SameL H H') : ∀ (ds : List PyData) (vs : List V), noLs ds = true → DpAll K H vs ds → DpAll K H' vs ds
  | [], _, _, h => by cases h; exact .nil
  | d :: ds, _, n, h => by
    cases h with
    | cons h1 h2 =>
      simp only [noLs, Bool.and_eq_true] at n
      exact .cons (Dp.monoL e d _ n.1 h1) (Dp.monoLs e ds _ n.2 h2)
end
theorem noLs_all : ∀ {ds : List PyData}, (∀ d ∈ ds, noL d = true) → noLs ds = true
  | [], _ => rfl
  | d :: ds, h => by simp only [noLs, Bool.and_eq_true]; exact ⟨h d (List.mem_cons_self ..), noLs_all fun x hx => h x (List.mem_cons_of_mem _ hx)⟩

/-! ### a comprehension without a test: its i-th item has R i -/
theorem lc_mapR {J : It} {n : Nat} {G : Hp → Prop} {Y : Nat → Hp → V → Hp → Prop} (w : Walk J n G Y) (R : Nat → V → Hp → Prop) (hR : ∀ i v H H', SameL H H' → R i v H → R i v H')
    {g : TG} {te : TE} {vs : List Nat} {σ : L2.St} {H1 : Hp} {D : Addr} {Qd : Hp → Prop} (hn : n ≤ sizeLine) (hD : H1 D = none) (hG : ∀ H, Same H1 H → G H)
    (hs : ∀ i x H H' (Z : VK), i < n → Same H1 H → Y i H x H' → (∀ y H4, R i y H4 → Same H H4 → Z y H4) → g x (wipe σ vs) H' fun σ2 H2 => wipe σ2 vs = wipe σ vs ∧ te σ2 H2 Z)
    (hd : ∀ H acc, Same H1 H → H D = some (.lst acc) → acc.length = n → (∀ i v, acc[i]? = some v → R i v H) → Qd H) :
    ∃ W : Nat → Nat → Hp → Prop, (∃ m, W 0 m (upd H1 D (.lst []))) ∧ ∀ i m H, W i m H →
      (J.stop i H ∧ Qd H) ∨ (J.go i H ∧ ∃ Nx : Hp → Prop, (∀ H', Nx H' → ∃ m', m' < m ∧ W (i + 1) m' H') ∧ ∀ x H', J.yld i H x H' → g x (wipe σ vs) H' fun σ2 H2 => wipe σ2 vs = wipe σ vs ∧ tYes σ2 H2 fun b H3 =>
        if b = true then te σ2 H3 fun y H4 => ∃ acc, H4 D = some (.lst acc) ∧ acc.length < sizeLine ∧ Nx (upd H4 D (.lst (acc ++ [y]))) else Nx H3) := by
  refine lc_it w (fun i H => Same H1 H ∧ ∃ acc, H D = some (.lst acc) ∧ acc.length = i ∧ ∀ j v, acc[j]? = some v → R j v H) ⟨same_new hD, [], upd_same, rfl, fun j v e => by cases e⟩ (fun i H _ p => hG H p.1) ?_ (fun H ⟨e, acc, h1, h2, h3⟩ => hd H acc e h1 h2 h3)
  rintro i x H H' hi ⟨e, acc, h1, h2, h3⟩ y
  refine hs i x H H' _ hi e y fun z H4 r q => ?_
  refine ⟨acc, q _ _ h1, by omega, same_mut (e.trans q) hD, acc ++ [z], upd_same, by simp [h2], fun j v ej => ?_⟩
  have sl : SameL H4 (upd H4 D (.lst (acc ++ [z]))) := (SameL.refl _).mut (q _ _ h1)
  by_cases c : j < acc.length
  · rw [List.getElem?_append_left c] at ej
    exact hR _ _ _ _ ((SameL.of q).trans sl) (h3 j v ej)
  · rw [List.getElem?_append_right (by omega)] at ej
    have : j - acc.length = 0 := by
      by_cases z0 : j - acc.length = 0
      · exact z0
      · rw [List.getElem?_eq_none (by simp; omega)] at ej; cases ej
    rw [this] at ej
    simp at ej
    subst ej
    have : j = i := by omega
    subst this
    exact hR _ _ _ _ sl r
theorem dpAll_of {K : PySem.W.Frag} {H : Hp} : ∀ {vs : List V} {ds : List PyData}, vs.length = ds.length → (∀ (i : Nat) (v : V), vs[i]? = some v → ∃ d, ds[i]? = some d ∧ Dp K H v d) → DpAll K H vs ds
  | [], [], _, _ => .nil
  | [], _ :: _, h, _ => by cases h
  | _ :: _, [], h, _ => by cases h
  | v :: vs, d :: ds, h, hh => by
    obtain ⟨d', e, r⟩ := hh 0 v rfl
    cases e
    exact .cons r (dpAll_of (Nat.succ.inj h) fun i v e => hh (i + 1) v e)

/-! ### entries, states -/
section
variable {K : PySem.W.Frag} {H : Hp} {v : V}
theorem ent_non (h : Dp K H v (dE none)) : v = .non := h.nonI
theorem ent_some {b a s : Int} (h : Dp K H v (dE (some (b, a, s)))) : ∃ p, v = .ref p ∧ SqT K H p [.int b, .int a, .int s] := by
  obtain ⟨p, xs, rfl, hs, ha⟩ := Dp.tupI h
  cases ha with
  | cons h1 ha => cases ha with
    | cons h2 ha => cases ha with
      | cons h3 ha =>
        cases ha
        cases h1.intI; cases h2.intI; cases h3.intI
        exact ⟨p, rfl, hs⟩
theorem ent_at {p : Addr} {b a s : Int} (h : SqT K H p [.int b, .int a, .int s]) : Dp K H (.ref p) (dE (some (b, a, s))) := .tup h (.cons (.int _) (.cons (.int _) (.cons (.int _) .nil)))
theorem ent_new {p : Addr} {b a s : Int} : Dp K (upd H p (.tup [.int b, .int a, .int s])) (.ref p) (dE (some (b, a, s))) := ent_at (.of upd_same)
theorem noL_dE (e : Ent) : noL (dE e) = true := by
  cases e with
  | none => rfl
  | some z => rfl
theorem noL_dS (st : Row) : noL (dS st) = true := by
  show noLs _ = true
  refine noLs_all fun d hd => ?_
  obtain ⟨e, _, rfl⟩ := List.mem_map.mp hd
  exact noL_dE e
theorem noLs_dE (st : Row) : noLs (st.map dE) = true := noL_dS st
theorem row_at {st : Row} (h : Dp K H v (dS st)) : ∃ p xs, v = .ref p ∧ SqT K H p xs ∧ DpAll K H xs (st.map dE) := Dp.tupI h
theorem row_len {xs : List V} {st : Row} (h : DpAll K H xs (st.map dE)) : xs.length = st.length := by
  have := DpAll.len h
  simpa using this
theorem row_get {xs : List V} {st : Row} {i : Nat} (h : DpAll K H xs (st.map dE)) (hi : i < st.length) : ∃ v, xs[i]? = some v ∧ Dp K H v (dE st[i]) :=
  DpAll.get h (by rw [List.getElem?_map, List.getElem?_eq_getElem hi]; rfl)
theorem row_get' {xs : List V} {st : Row} {i : Nat} {v : V} (h : DpAll K H xs (st.map dE)) (hi : xs[i]? = some v) : ∃ e, st[i]? = some e ∧ Dp K H v (dE e) := by
  obtain ⟨d, h1, h2⟩ := DpAll.get' h hi
  rw [List.getElem?_map] at h1
  cases e : st[i]? with
  | none => rw [e] at h1; cases h1
  | some z => rw [e] at h1; cases h1; exact ⟨z, rfl, h2⟩
end

/-! ### chains -/
def MakeIs (K : PySem.W.Frag) (H : Hp) (a : Addr) (h : Hop) : Prop := ∃ m, MakeAt K H a m ∧ m.tells = h.tells ∧ m.dates = h.dates
theorem MakeIs.monoL {K : PySem.W.Frag} {H H' : Hp} {a : Addr} {h : Hop} (e : SameL H H') (x : MakeIs K H a h) : MakeIs K H' a h := by
  obtain ⟨m, ⟨dx, h1⟩, h2⟩ := x
  exact ⟨m, ⟨dx, e _ _ h1 trivial⟩, h2⟩
def LinkIs (K : PySem.W.Frag) (H : Hp) (x : V) (h : Hop) : Prop := ∃ p a, x = .ref p ∧ SqT K H p [.ref a, .int h.lim] ∧ MakeIs K H a h
theorem LinkIs.monoL {K : PySem.W.Frag} {H H' : Hp} {x : V} {h : Hop} (e : SameL H H') : LinkIs K H x h → LinkIs K H' x h := fun ⟨p, a, h1, h2, h3⟩ => ⟨p, a, h1, sqT_L e h2, h3.monoL e⟩
def ChainAt (K : PySem.W.Frag) (H : Hp) (p : Addr) (c : Chain) : Prop := ∃ xs, SqL K H p xs ∧ xs.length = c.length ∧ ∀ (i : Nat) (h : Hop), c[i]? = some h → ∃ x, xs[i]? = some x ∧ LinkIs K H x h
theorem ChainAt.mono {K : PySem.W.Frag} {H H' : Hp} {p : Addr} {c : Chain} (e : Same H H') : ChainAt K H p c → ChainAt K H' p c := fun ⟨xs, h1, h2, h3⟩ =>
  ⟨xs, Evl.ex_l e h1, h2, fun i h q => let ⟨x, q1, q2⟩ := h3 i h q; ⟨x, q1, q2.monoL (.of e)⟩⟩
end K98
namespace K98
theorem iteTd {c : Prop} [Decidable c] {A B : Prop} (h : c) (a : A) : if decide c = true then A else B := by rw [if_pos (decide_eq_true h)]; exact a
theorem iteFd {c : Prop} [Decidable c] {A B : Prop} (h : ¬ c) (b : B) : if decide c = true then A else B := by rw [if_neg (by simpa using h)]; exact b
end K98
namespace K98
open PySem PySem.Spec PyProof.Rows L2 Ru He6
abbrev rLenK (K : PySem.W.Frag) : List V → Hp → VK → Prop := fun xs H Q => ∃ p ys, xs = [V.ref p] ∧ (SqL K H p ys ∨ SqT K H p ys) ∧ Q (.int ys.length) H
theorem pe_fldK {X : Cx} {K : PySem.W.Frag} {e : Expr} {ta : TE} {f : Str} {pos : Pos} (hK : X.K = K) (he : PE X e ta) (hb : attributeBase e f X.env (eval e X.env) = eval e X.env) : PE X (.Attribute e f pos) (tFld K ta f) := by
  subst hK
  exact pe_fld he hb
end K98
set_option Elab.async false
set_option linter.all false
set_option maxRecDepth 100000
set_option maxHeartbeats 4000000
namespace K98
open PySem PySem.Spec PyProof.Rows L2 Ru He6
open C8 (Cal pe_c)
/-! ### the mirror of the steps -/
def waited (e : Ent) (lim t : Int) : Ent := match e with
  | none => none
  | some (b, a, s) => if lim ≤ a + t then none else some (b, a + t, s + t)
def upE (e : Ent) : Ent := e.map fun z => (z.1 + 1, z.2.1, z.2.2)
section
variable {P : Program} {w : World} {K : PySem.W.Frag} {mg : Str → Option Value} {base : Heap}
theorem sc_waited : FnScope ["entry", "limit", "ticks", "behind", "age", "since"] ["entry", "limit", "ticks"] (defScope s_waited) := ⟨rfl, rfl, rfl, by decide +kernel, rfl, by decide +kernel, by decide +kernel⟩
def sp_waited (K : PySem.W.Frag) : Sp := fun vs H Q _ => ∃ v e l t, vs = [v, .int l, .int t] ∧ Dp K H v (dE e) ∧ ∀ v' H', Same H H' → Dp K H' v' (dE (waited e l t)) → Q v' H'
theorem ok_waited (T : TT K mg) : Cal P w K mg base 1 "waited" (sp_waited K) [] := by
  refine cal_of (f_waited T) (g_waited T) sc_waited (fun _ _ _ _ _ _ us hl => match us, hl with | [_, _, _], _ => rfl) (fun vs H Q E h => ?_) (fun cdv A outer s H vs Q E hr h => ?_)
  · obtain ⟨v, e, l, t, rfl, hv, k⟩ := h; rfl
  · obtain ⟨v, e, l, t, rfl, hv, k⟩ := h
    refine ⟨_, (pss_cons (ps_if (pt_cmp (pc_isN (pv 0)))
      (pss_one (ps_ret pe_non))
      pss_nil)
      (pss_cons (ps_asg (pv 0) (pg_tup (n := 3) rfl (pgs_cons (pg_name (i := 3) sc_waited.nd rfl (.inl rfl)) (pgs_cons (pg_name (i := 4) sc_waited.nd rfl (.inl rfl)) (pgs_cons (pg_name (i := 5) sc_waited.nd rfl (.inl rfl)) pgs_nil)))))
      (pss_cons (ps_if (pt_cmpR op_ge (pe_op op_add (pv 4) (pv 2)) (pv 1) (nomark _))
      (pss_one (ps_ret pe_non))
      pss_nil)
      (pss_one (ps_ret (pe_tup (pa_cons (pv 3) (pa_cons (pe_op op_add (pv 4) (pv 2)) (pa_cons (pe_op op_add (pv 5) (pv 2)) pa_nil))))))))), ?_⟩
    cases e with
    | none =>
      have e1 : v = .non := ent_non hv
      subst e1
      refine ⟨_, rfl, _, rfl, ?_⟩
      exact iteT (k _ _ (Same.refl _) .non)
    | some z =>
      obtain ⟨b, a, s⟩ := z
      obtain ⟨p, rfl, hs⟩ := ent_some hv
      refine ⟨_, rfl, _, rfl, ?_⟩
      refine iteF ⟨_, rfl, _, _, rfl, hs, rfl, _, _, rfl, _, _, rfl, _, _, rfl, rfl, ?_⟩
      refine ⟨_, rfl, _, rfl, _, _, rfl, rfl, _, rfl, _, _, rfl, rfl, _, rfl, ?_⟩
      by_cases c : l ≤ a + t
      · refine iteTd c (k _ _ (Same.refl _) ?_)
        rw [waited, if_pos c]; exact .non
      · refine iteFd c ⟨_, rfl, ⟨_, rfl, _, rfl, _, _, rfl, rfl, _, rfl, _, rfl, _, _, rfl, rfl, ?_, fun p np => ?_⟩⟩
        · show 3 ≤ sizeLine; decide
        · refine k _ _ (same_new np) ?_
          rw [waited, if_neg c]; exact ent_new
theorem sc_after_change : FnScope ["state", "entry"] ["state"] (defScope s_after_change) := ⟨rfl, rfl, rfl, by decide +kernel, rfl, by decide +kernel, by decide +kernel⟩
def sp_after_change (K : PySem.W.Frag) : Sp := fun vs H Q _ => ∃ v st, vs = [v] ∧ Dp K H v (dS st) ∧ st.length ≤ 1000 ∧ ∀ v' H', Same H H' → Dp K H' v' (dS (st.map upE)) → Q v' H'
theorem ok_after_change (T : TT K mg) : Cal P w K mg base 1 "after_change" (sp_after_change K) [] := by
  refine cal_of (f_after_change T) (g_after_change T) sc_after_change (fun _ _ _ _ _ _ us hl => match us, hl with | [_], _ => rfl) (fun vs H Q E h => ?_) (fun cdv A outer s H vs Q E hr h => ?_)
  · obtain ⟨v, st, rfl, hv, hlen, k⟩ := h; rfl
  · obtain ⟨v, st, rfl, hv, hlen, k⟩ := h
    refine ⟨_, (pss_one (ps_ret (pe_tupleOf (by rfl) (b_tuple T) (pe_lc (own := [("entry", 1)]) (g := (gName 1)) (tt := tYes) rfl sc_after_change.nd (pi_tup (pv 0)) (blkOk_by (own := [("entry", 1)]) (N := ["state", "entry"]) (sc := defScope s_after_change) (by decide +kernel)) (fun _ _ _ _ _ => (pg_name (i := 1) sc_after_change.nd rfl (.inl rfl))) (fun _ _ _ _ _ => pts_nil) (fun _ _ _ _ _ => (pe_ifExp (pt_cmp (pc_isN (pv 1))) pe_non (pe_tup (pa_cons (pe_op op_add (pe_ix (r := rIxT K) ix_tup (pv 1) pe_int (fun _ _ => rfl)) pe_int) (pa_cons (pe_ix (r := rIxT K) ix_tup (pv 1) pe_int (fun _ _ => rfl)) (pa_cons (pe_ix (r := rIxT K) ix_tup (pv 1) pe_int (fun _ _ => rfl)) pa_nil)))))))))), ?_⟩
    obtain ⟨p, xs, rfl, hs, ha⟩ := row_at hv
    have hl := row_len ha
    refine ⟨_, rfl, p, rfl, ⟨_, hs⟩, fun D hD => ?_⟩
    refine lc_mapR walk_tup (fun i v H' => ∃ e, st[i]? = some e ∧ Dp K H' v (dE (upE e))) (fun i v H1 H2 e ⟨x, q, r⟩ => ⟨x, q, Dp.monoL e _ _ (noL_dE _) r⟩) (by rw [hl]; exact Nat.le_trans hlen (by decide)) hD (fun H' e => Evl.ex_t e hs) ?_ ?_
    · rintro i x H1 H2 Z hi e ⟨rfl, hx⟩ kz
      obtain ⟨z, hz, dz⟩ := row_get' ha hx
      have dz := Dp.mono e _ _ dz
      refine ⟨rfl, ?_⟩
      cases z with
      | none =>
        have := ent_non dz
        subst this
        exact ⟨_, rfl, _, rfl, iteT (kz _ _ ⟨_, hz, .non⟩ (Same.refl _))⟩
      | some z =>
        obtain ⟨b, a, s⟩ := z
        obtain ⟨q, rfl, hq⟩ := ent_some dz
        refine ⟨_, rfl, _, rfl, iteF ?_⟩
        refine ⟨_, rfl, _, _, _, _, rfl, rfl, hq, rfl, _, _, rfl, rfl, ⟨_, rfl, _, _, _, _, rfl, rfl, hq, rfl, _, rfl, _, _, _, _, rfl, rfl, hq, rfl, ?_, fun p np => ?_⟩⟩
        · show 3 ≤ sizeLine; decide
        · exact kz _ _ ⟨_, hz, ent_new⟩ (same_new np)
    · intro H1 acc e hDacc hlacc hR
      refine .inl ⟨_, _, rfl, .of hDacc, fun q hq => ?_⟩
      refine k _ _ (e.trans (same_new hq)) (Dp.newT hq (dpAll_of (by simp [hlacc, hl]) fun i v ei => ?_))
      obtain ⟨z, hz, dz⟩ := hR i v ei
      exact ⟨dE (upE z), by simp [hz], dz⟩
end
end K98
set_option Elab.async false
set_option linter.all false
set_option maxRecDepth 100000
set_option maxHeartbeats 4000000
namespace K98
open PySem PySem.Spec PyProof.Rows L2 Ru He6
open C8 (Cal pe_c)
def rkE (r : Int → Int) (e : Ent) : Ent := e.map fun z => (r z.1, z.2.1, z.2.2)
def waitRow (c : Chain) (st : Row) (t : Int) : Row := List.zipWith (fun e h => waited e h.lim t) st c
/-- without doubles -/
def ddp : List Int → List Int
  | [] => []
  | x :: xs => if x ∈ xs then ddp xs else x :: ddp xs
theorem mem_ddp {x : Int} : ∀ {xs : List Int}, x ∈ ddp xs ↔ x ∈ xs
  | [] => Iff.rfl
  | y :: ys => by
    unfold ddp
    by_cases h : y ∈ ys
    · rw [if_pos h, mem_ddp, List.mem_cons]
      exact ⟨.inr, fun z => z.elim (fun e => e ▸ h) id⟩
    · rw [if_neg h, List.mem_cons, List.mem_cons, mem_ddp]
theorem nodup_ddp : ∀ (xs : List Int), (ddp xs).Nodup
  | [] => List.nodup_nil
  | y :: ys => by
    unfold ddp
    by_cases h : y ∈ ys
    · rw [if_pos h]; exact nodup_ddp ys
    · rw [if_neg h]; exact List.nodup_cons.mpr ⟨fun z => h (mem_ddp.mp z), nodup_ddp ys⟩
def rank (ns : List Int) (x : Int) : Int := (((ddp ns).filter fun y => decide (y < x)).length : Nat)
theorem rank_sorted {ns L : List Int} (hs : L.Pairwise (· < ·)) (hm : ∀ x, x ∈ L ↔ x ∈ ns) {i : Nat} (hi : i < L.length) : rank ns L[i] = (i : Int) := by
  have nd : L.Nodup := hs.imp fun h => Int.ne_of_lt h
  have p : (ddp ns).Perm L := (List.perm_ext_iff_of_nodup (nodup_ddp ns) nd).mpr fun a => by rw [mem_ddp, hm]
  unfold rank
  rw [(p.filter _).length_eq]
  have e : L.filter (fun y => decide (y < L[i])) = L.take i := by
    have e1 : L = L.take i ++ L.drop i := (List.take_append_drop i L).symm
    have e2 : (L.take i).filter (fun y => decide (y < L[i])) = L.take i := List.filter_eq_self.mpr fun a ha => by
      obtain ⟨j, hj, rfl⟩ := List.mem_iff_getElem.mp ha
      rw [List.length_take] at hj
      rw [List.getElem_take]
      exact decide_eq_true (List.pairwise_iff_getElem.mp hs j i (by omega) hi (by omega))
    have e3 : (L.drop i).filter (fun y => decide (y < L[i])) = [] := List.filter_eq_nil_iff.mpr fun a ha => by
      obtain ⟨j, hj, rfl⟩ := List.mem_iff_getElem.mp ha
      rw [List.length_drop] at hj
      rw [List.getElem_drop]
      simp only [decide_eq_true_eq, Int.not_lt]
      by_cases c : j = 0
      · subst c; exact Int.le_refl _
      · exact Int.le_of_lt (List.pairwise_iff_getElem.mp hs i (i + j) hi (by omega) (by omega))
    have e4 : L.filter (fun y => decide (y < L[i])) = (L.take i ++ L.drop i).filter (fun y => decide (y < L[i])) := congrArg _ e1
    rw [e4, List.filter_append, e2, e3, List.append_nil]
  rw [e, List.length_take]
  omega
def nums (st : Row) : List Int := st.filterMap fun e => e.map fun z => z.1
def joined (f s : Row) : Row × Row := let r := rank (0 :: nums (f ++ s)); (f.map (rkE r), s.map (rkE r))
theorem nums_take {st : Row} {i : Nat} {e : Ent} (h : st[i]? = some e) : nums (st.take (i + 1)) = nums (st.take i) ++ nums [e] := by
  obtain ⟨hi, rfl⟩ := List.getElem?_eq_some_iff.mp h
  unfold nums
  rw [List.take_succ_eq_append_getElem hi, List.filterMap_append]
theorem nums_len (st : Row) : (nums st).length ≤ st.length := List.length_filterMap_le ..
section
variable {P : Program} {w : World} {K : PySem.W.Frag} {mg : Str → Option Value} {base : Heap}
theorem sc_with_ranks : FnScope ["state", "ranks", "entry"] ["state", "ranks"] (defScope s_with_ranks) := ⟨rfl, rfl, rfl, by decide +kernel, rfl, by decide +kernel, by decide +kernel⟩
def sp_with_ranks (K : PySem.W.Frag) : Sp := fun vs H Q _ => ∃ v d st kvs r, vs = [v, .ref d] ∧ Dp K H v (dS st) ∧ st.length ≤ 1000 ∧ H d = some (.dK kvs) ∧ (∀ b ∈ nums st, valV kvs (Sum.inl b) = some (.int (r b))) ∧ ∀ v' H', Same H H' → Dp K H' v' (dS (st.map (rkE r))) → Q v' H'
theorem ok_with_ranks (T : TT K mg) : Cal P w K mg base 1 "with_ranks" (sp_with_ranks K) [] := by
  refine cal_of (f_with_ranks T) (g_with_ranks T) sc_with_ranks (fun _ _ _ _ _ _ us hl => match us, hl with | [_, _], _ => rfl) (fun vs H Q E h => ?_) (fun cdv A outer s H vs Q E hr h => ?_)
  · obtain ⟨v, d, st, kvs, r, rfl, hv, hlen, hd, hkv, k⟩ := h; rfl
  · obtain ⟨v, d, st, kvs, r, rfl, hv, hlen, hd, hkv, k⟩ := h
    refine ⟨_, (pss_one (ps_ret (pe_tupleOf (by rfl) (b_tuple T) (pe_lc (own := [("entry", 2)]) (g := (gName 2)) (tt := tYes) rfl sc_with_ranks.nd (pi_tup (pv 0)) (blkOk_by (own := [("entry", 2)]) (N := ["state", "ranks", "entry"]) (sc := defScope s_with_ranks) (by decide +kernel)) (fun _ _ _ _ _ => (pg_name (i := 2) sc_with_ranks.nd rfl (.inl rfl))) (fun _ _ _ _ _ => pts_nil) (fun _ _ _ _ _ => (pe_ifExp (pt_cmp (pc_isN (pv 2))) pe_non (pe_tup (pa_cons (pe_dget (hu_of hr) (pv 1) (pe_ix (r := rIxT K) ix_tup (pv 2) pe_int (fun _ _ => rfl)) (fun _ _ => rfl)) (pa_cons (pe_ix (r := rIxT K) ix_tup (pv 2) pe_int (fun _ _ => rfl)) (pa_cons (pe_ix (r := rIxT K) ix_tup (pv 2) pe_int (fun _ _ => rfl)) pa_nil)))))))))), ?_⟩
    obtain ⟨p, xs, rfl, hs, ha⟩ := row_at hv
    have hl := row_len ha
    refine ⟨_, rfl, p, rfl, ⟨_, hs⟩, fun D hD => ?_⟩
    refine lc_mapR walk_tup (fun i v H' => ∃ e, st[i]? = some e ∧ Dp K H' v (dE (rkE r e))) (fun i v H1 H2 e ⟨x, q, r⟩ => ⟨x, q, Dp.monoL e _ _ (noL_dE _) r⟩) (by rw [hl]; exact Nat.le_trans hlen (by decide)) hD (fun H' e => Evl.ex_t e hs) ?_ ?_
    · rintro i x H1 H2 Z hi e ⟨rfl, hx⟩ kz
      obtain ⟨z, hz, dz⟩ := row_get' ha hx
      have dz := Dp.mono e _ _ dz
      refine ⟨rfl, ?_⟩
      cases z with
      | none =>
        have := ent_non dz
        subst this
        exact ⟨_, rfl, _, rfl, iteT (kz _ _ ⟨_, hz, .non⟩ (Same.refl _))⟩
      | some z =>
        obtain ⟨b, a, s⟩ := z
        obtain ⟨q, rfl, hq⟩ := ent_some dz
        have hb : b ∈ nums st := List.mem_filterMap.mpr ⟨_, List.mem_of_getElem? hz, rfl⟩
        refine ⟨_, rfl, _, rfl, iteF ?_⟩
        refine ⟨_, rfl, _, rfl, _, _, _, _, rfl, rfl, hq, rfl, d, .int (r b), rfl, ?_, ⟨_, rfl, _, _, _, _, rfl, rfl, hq, rfl, _, rfl, _, _, _, _, rfl, rfl, hq, rfl, ?_, fun p np => ?_⟩⟩
        · have := DGet.k (k := Sum.inl b) (e _ _ hd)
          rw [hkv b hb] at this
          exact this
        · show 3 ≤ sizeLine; decide
        · exact kz _ _ ⟨_, hz, ent_new⟩ (same_new np)
    · intro H1 acc e hDacc hlacc hR
      refine .inl ⟨_, _, rfl, .of hDacc, fun q hq => ?_⟩
      refine k _ _ (e.trans (same_new hq)) (Dp.newT hq (dpAll_of (by simp [hlacc, hl]) fun i v ei => ?_))
      obtain ⟨z, hz, dz⟩ := hR i v ei
      exact ⟨dE (rkE r z), by simp [hz], dz⟩
theorem sc_after_wait : FnScope ["chain", "state", "ticks", "at", "entry"] ["chain", "state", "ticks"] (defScope s_after_wait) := ⟨rfl, rfl, rfl, by decide +kernel, rfl, by decide +kernel, by decide +kernel⟩
def sp_after_wait (K : PySem.W.Frag) : Sp := fun vs H Q _ => ∃ p v c st t, vs = [.ref p, v, .int t] ∧ ChainAt K H p c ∧ Dp K H v (dS st) ∧ st.length = c.length ∧ st.length ≤ 1000 ∧ ∀ v' H', Same H H' → Dp K H' v' (dS (waitRow c st t)) → Q v' H'
theorem ok_after_wait (T : TT K mg) : Cal P w K mg base 2 "after_wait" (sp_after_wait K) [] := by
  refine cal_of (f_after_wait T) (g_after_wait T) sc_after_wait (fun _ _ _ _ _ _ us hl => match us, hl with | [_, _, _], _ => rfl) (fun vs H Q E h => ?_) (fun cdv A outer s H vs Q E hr h => ?_)
  · obtain ⟨p, v, c, st, t, rfl, hc, hv, hle, hlen, k⟩ := h; rfl
  · obtain ⟨p, v, c, st, t, rfl, hc, hv, hle, hlen, k⟩ := h
    refine ⟨_, (pss_one (ps_ret (pe_tupleOf (by rfl) (b_tuple T) (pe_lc (own := [("at", 3), ("entry", 4)]) (g := (gTup K 2 (gCons (gName 3) (gCons (gName 4) gNil)))) (tt := tYes) rfl sc_after_wait.nd (pi_enumT (by rfl) (b_enumerate T) (pa_cons (pv 1) pa_nil)) (blkOk_by (own := [("at", 3), ("entry", 4)]) (N := ["chain", "state", "ticks", "at", "entry"]) (sc := defScope s_after_wait) (by decide +kernel)) (fun _ _ _ _ _ => (pg_tup (n := 2) rfl (pgs_cons (pg_name (i := 3) sc_after_wait.nd rfl (.inl rfl)) (pgs_cons (pg_name (i := 4) sc_after_wait.nd rfl (.inl rfl)) pgs_nil)))) (fun _ _ _ _ _ => pts_nil) (fun _ _ _ _ _ => (pe_c (ok_waited T) hr (by decide) (by rfl) (pa_cons (pv 4) (pa_cons (pe_ix (r := rIxT K) ix_tup (pe_ix (r := rIxL K) ix_list (pv 0) (pv 3) (fun _ _ => rfl)) pe_int (fun _ _ => rfl)) (pa_cons (pv 2) pa_nil))))))))), ?_⟩
    obtain ⟨q, xs, rfl, hs, ha⟩ := row_at hv
    have hl := row_len ha
    refine ⟨_, rfl, q, xs, rfl, hs, fun D hD => ?_⟩
    refine lc_mapR walk_enumT (fun i v H' => ∃ e h, st[i]? = some e ∧ c[i]? = some h ∧ Dp K H' v (dE (waited e h.lim t))) (fun i v H1 H2 e ⟨x, h, q, q2, r⟩ => ⟨x, h, q, q2, Dp.monoL e _ _ (noL_dE _) r⟩) (by rw [hl]; exact Nat.le_trans hlen (by decide)) hD (fun H' e => Evl.ex_t e hs) ?_ ?_
    · rintro i x H1 H2 Z hi e ⟨T', x, rfl, hT', rfl, hx⟩ kz
      obtain ⟨z, hz, dz⟩ := row_get' ha hx
      have e2 := e.trans (same_new (o := .tup [V.int (i : Nat), x]) hT')
      have dz := Dp.mono e2 _ _ dz
      have hi2 : i < c.length := by rw [← hle, ← hl]; exact hi
      obtain ⟨ys, g1, g2, g3⟩ := ChainAt.mono e2 hc
      obtain ⟨y, y1, pl, am, rfl, y2, y3⟩ := g3 i c[i] (List.getElem?_eq_getElem hi2)
      refine ⟨_, _, rfl, .of upd_same, rfl, _, _, rfl, _, _, rfl, rfl, rfl, ?_⟩
      refine ⟨_, rfl, _, rfl, _, rfl, _, _, _, _, rfl, rfl, g1, atI_nat y1, _, _, _, _, rfl, rfl, y2, rfl, _, rfl, ?_⟩
      exact ⟨_, z, _, t, rfl, dz, fun v' H' e' d' => kz _ _ ⟨z, _, hz, List.getElem?_eq_getElem hi2, d'⟩ ((same_new hT').trans e')⟩
    · intro H1 acc e hDacc hlacc hR
      refine .inl ⟨_, _, rfl, .of hDacc, fun q hq => ?_⟩
      refine k _ _ (e.trans (same_new hq)) (Dp.newT hq (dpAll_of (by simp [hlacc, hl, waitRow, hle]) fun i v ei => ?_))
      obtain ⟨z, h, hz, hh, dz⟩ := hR i v ei
      exact ⟨dE (waited z h.lim t), by simp [waitRow, List.getElem?_zipWith, hz, hh], dz⟩
theorem sc_empty_state : FnScope ["hop_count"] ["hop_count"] (defScope s_empty_state) := ⟨rfl, rfl, rfl, by decide +kernel, rfl, by decide +kernel, by decide +kernel⟩
def sp_empty_state (K : PySem.W.Frag) : Sp := fun vs H Q _ => ∃ n : Nat, vs = [.int n] ∧ 1 ≤ n ∧ n ≤ 1000 ∧ ∀ v' H', Same H H' → Dp K H' v' (dS (List.replicate n none)) → Q v' H'
theorem ok_empty_state (T : TT K mg) : Cal P w K mg base 1 "empty_state" (sp_empty_state K) [] := by
  refine cal_of (f_empty_state T) (g_empty_state T) sc_empty_state (fun _ _ _ _ _ _ us hl => match us, hl with | [_], _ => rfl) (fun vs H Q E h => ?_) (fun cdv A outer s H vs Q E hr h => ?_)
  · obtain ⟨n, rfl, h1, h2, k⟩ := h; rfl
  · obtain ⟨n, rfl, h1, h2, k⟩ := h
    refine ⟨_, (pss_one (ps_ret (pe_op op_rep1 (pe_tup (pa_cons pe_non pa_nil)) (pv 0)))), ?_⟩
    refine ⟨by show 1 ≤ sizeLine; decide, fun p hp => ⟨_, rfl, p, (n : Int), _, rfl, rfl, .of upd_same, (fun z => by cases z), (by show 1 ≤ 1000; decide), ?_⟩⟩
    by_cases c : n = 1
    · subst c
      exact .inl ⟨rfl, k _ _ (same_new hp) (Dp.newT hp (.cons .non .nil))⟩
    · refine .inr ⟨by omega, by omega, fun q hq => k _ _ ((same_new hp).trans (same_new hq)) (Dp.newT hq ?_)⟩
      rw [Int.toNat_natCast]
      have : ∀ m : Nat, DpAll K (upd H p (.tup [.non])) (List.replicate m [V.non]).flatten ((List.replicate m (none : Ent)).map dE) := fun m => by
        induction m with
        | zero => exact .nil
        | succ m ih => exact .cons .non ih
      exact this n
end
end K98
set_option Elab.async false
set_option linter.all false
set_option maxRecDepth 100000
set_option maxHeartbeats 4000000
namespace K98
open PySem PySem.Spec PyProof.Rows L2 Ru He6
open C8 (Cal pe_c)
theorem putK_len' {κ : Type} [DecidableEq κ] (c : List (κ × V)) (k : κ) (x : V) : (putK c k x).length ≤ c.length + 1 := by
  unfold putK
  split
  · rw [List.length_map]; omega
  · rw [List.length_append]; simp
section
variable {P : Program} {w : World} {K : PySem.W.Frag} {mg : Str → Option Value} {base : Heap}
theorem sc_joined_state : FnScope ["first", "second", "numbers", "ranks", "rank", "number", "entry"] ["first", "second"] (defScope s_joined_state) := ⟨rfl, rfl, rfl, by decide +kernel, rfl, by decide +kernel, by decide +kernel⟩
def sp_joined_state (K : PySem.W.Frag) : Sp := fun vs H Q _ => ∃ v u f s, vs = [v, u] ∧ Dp K H v (dS f) ∧ Dp K H u (dS s) ∧ 1 ≤ f.length ∧ f.length ≤ 20 ∧ 1 ≤ s.length ∧ s.length ≤ 20 ∧ ∀ v' H', Same H H' → Dp K H' v' (.tuple [dS (joined f s).1, dS (joined f s).2]) → Q v' H'
theorem ok_joined_state (T : TT K mg) : Cal P w K mg base 2 "joined_state" (sp_joined_state K) [] := by
  refine cal_of (f_joined_state T) (g_joined_state T) sc_joined_state (fun _ _ _ _ _ _ us hl => match us, hl with | [_, _], _ => rfl) (fun vs H Q E h => ?_) (fun cdv A outer s H vs Q E hr h => ?_)
  · obtain ⟨v, u, f, s, rfl, hv, hu, f1, f2, s1, s2, k⟩ := h; rfl
  · obtain ⟨v, u, f, s, rfl, hv, hu, f1, f2, s1, s2, k⟩ := h
    refine ⟨_, (pss_cons (ps_set (i := 2) sc_joined_state.nd rfl (.inl rfl) (pe_op op_cat (pe_lst (pa_cons pe_int pa_nil)) (pe_lc (own := [("entry", 6)]) (g := (gName 6)) (tt := _) rfl sc_joined_state.nd (pi_tup (pe_op op_catT (pv 0) (pv 1))) (blkOk_by (own := [("entry", 6)]) (N := ["first", "second", "numbers", "ranks", "rank", "number", "entry"]) (sc := defScope s_joined_state) (by decide +kernel)) (fun _ _ _ _ _ => (pg_name (i := 6) sc_joined_state.nd rfl (.inl rfl))) (fun _ _ _ _ _ => (pts_one (pt_cmp (pc_notN (pv 6))))) (fun _ _ _ _ _ => (pe_ix (r := rIxT K) ix_tup (pv 6) pe_int (fun _ _ => rfl))))))
      (pss_cons (ps_set (i := 3) sc_joined_state.nd rfl (.inl rfl) pe_dnewK)
      (pss_cons (ps_for PassesOwn.never rfl (pi_enum (by rfl) (b_enumerate T) (pa_cons (pe_callB (cr_sortedSet rfl) (by rfl) (b_sorted T) (by decide +kernel) (pa_cons (pe_callTy (cr_setI (by rfl)) (by rfl) (b_set T) (by decide +kernel) (pa_cons (pv 2) pa_nil)) pa_nil)) pa_nil)) (pg_tup (n := 2) rfl (pgs_cons (pg_name (i := 4) sc_joined_state.nd rfl (.inl rfl)) (pgs_cons (pg_name (i := 5) sc_joined_state.nd rfl (.inl rfl)) pgs_nil)))
      (pss_one (ps_dput (hu_of hr) (pv 3) (pv 5) (pv 4) rfl)))
      (pss_one (ps_ret (pe_tup (pa_cons (pe_c (ok_with_ranks T) hr (by decide) (by rfl) (pa_cons (pv 0) (pa_cons (pv 3) pa_nil))) (pa_cons (pe_c (ok_with_ranks T) hr (by decide) (by rfl) (pa_cons (pv 1) (pa_cons (pv 3) pa_nil))) pa_nil)))))))), ?_⟩
    obtain ⟨p, xs, rfl, hs, ha⟩ := row_at hv
    obtain ⟨q, ys, rfl, hs', ha'⟩ := row_at hu
    have hl := row_len ha
    have hl' := row_len ha'
    refine ⟨by show 1 ≤ sizeLine; decide, fun l hl0 => ?_⟩
    have e0 : Same H (upd H l (.lst [.int 0])) := same_new hl0
    refine ⟨_, rfl, _, rfl, p, q, xs, ys, rfl, rfl, Evl.ex_t e0 hs, Evl.ex_t e0 hs', fun z => ?_, Nat.le_trans (m := 40) (by omega) (by decide), fun z => ?_, fun z r hr0 => ?_⟩
    · rw [z] at hl; simp at hl; omega
    · rw [z] at hl'; simp at hl'; omega
    have e1 := e0.trans (same_new (o := .tup (xs ++ ys)) hr0)
    have hap : DpAll K (upd (upd H l (.lst [.int 0])) r (.tup (xs ++ ys))) (xs ++ ys) ((f ++ s).map dE) := by
      rw [List.map_append]
      exact DpAll.append (Dp.monoAll e1 _ _ ha) (Dp.monoAll e1 _ _ ha')
    have hlr : (xs ++ ys).length = (f ++ s).length := row_len hap
    have hsr : SqT K (upd (upd H l (.lst [.int 0])) r (.tup (xs ++ ys))) r (xs ++ ys) := .of upd_same
    generalize hH2 : upd (upd H l (.lst [.int 0])) r (.tup (xs ++ ys)) = H2 at e1 hap hsr
    have hlH2 : H2 l = some (.lst [.int 0]) := by rw [← hH2, upd_ne (ne_of_none upd_same hr0)]; exact upd_same
    refine ⟨r, rfl, ⟨_, hsr⟩, fun D hD => ?_⟩
    refine lc_it walk_tup (fun i H' => Same H2 H' ∧ H' D = some (.lst ((nums ((f ++ s).take i)).map V.int))) ⟨same_new hD, upd_same⟩ (fun i H' _ p => Evl.ex_t p.1 hsr) ?_ ?_
    · rintro i x H3 H4 hi ⟨e, hacc⟩ ⟨rfl, hx⟩
      obtain ⟨z, hz, dz⟩ := row_get' hap hx
      have dz := Dp.mono e _ _ dz
      have hsz : ((nums ((f ++ s).take i)).map V.int).length < sizeLine := by
        rw [List.length_map]
        refine Nat.lt_of_le_of_lt (nums_len _) (Nat.lt_of_le_of_lt (List.length_take_le _ _) ?_)
        refine Nat.lt_of_lt_of_le hi ?_
        rw [hlr, List.length_append]
        exact Nat.le_trans (m := 40) (by omega) (by decide)
      refine ⟨rfl, ?_⟩
      cases z with
      | none =>
        have := ent_non dz
        subst this
        refine ⟨_, rfl, _, rfl, iteF ⟨e, ?_⟩⟩
        rw [nums_take hz, hacc]
        simp [nums]
      | some z =>
        obtain ⟨b, a, t⟩ := z
        obtain ⟨q, rfl, hq⟩ := ent_some dz
        refine ⟨_, rfl, _, rfl, iteT ⟨_, rfl, _, _, _, _, rfl, rfl, hq, rfl, _, hacc, hsz, same_mut e hD, ?_⟩⟩
        rw [upd_same, nums_take hz]
        simp [nums]
    rintro H3 ⟨e3, hD3⟩
    rw [hlr, List.take_length] at hD3
    have e13 := e1.trans e3
    refine ⟨l, D, _, _, rfl, rfl, e3 _ _ hlH2, hD3, ?_, fun n hn => ?_⟩
    · rw [List.length_map]
      refine Nat.le_trans (m := 41) ?_ (by decide)
      have := nums_len (f ++ s)
      rw [List.length_append] at this
      simp only [List.length_cons, List.length_nil]
      omega
    intro d hd
    have e4 : Same H (upd (upd H3 n (.lst ([V.int 0] ++ (nums (f ++ s)).map V.int))) d (.dK [])) := (e13.trans (same_new hn)).trans (same_new hd)
    have hn4 : (upd (upd H3 n (.lst ([V.int 0] ++ (nums (f ++ s)).map V.int))) d (.dK [])) n = some (.lst ([V.int 0] ++ (nums (f ++ s)).map V.int)) := by
      rw [upd_ne (ne_of_none upd_same hd)]; exact upd_same
    have hd4 : (upd (upd H3 n (.lst ([V.int 0] ++ (nums (f ++ s)).map V.int))) d (.dK [])) d = some (.dK []) := upd_same
    have hHd : H d = none := by
      have e5 : Same H (upd H3 n (.lst ([V.int 0] ++ (nums (f ++ s)).map V.int))) := e13.trans (same_new hn)
      exact e5.free hd
    generalize upd (upd H3 n (.lst ([V.int 0] ++ (nums (f ++ s)).map V.int))) d (.dK []) = H4 at e4 hn4 hd4
    refine ⟨_, rfl, n, 0 :: nums (f ++ s), rfl, .of (by simpa using hn4), ?_, fun sp c hsp hc => ?_⟩
    · have := nums_len (f ++ s)
      rw [List.length_append] at this
      simp only [List.length_cons]
      omega
    have hcl : c < 64 := by
      have := nums_len (f ++ s)
      rw [List.length_append] at this
      simp only [List.length_cons] at hc
      omega
    refine ⟨sp, _, c, rfl, upd_same, hcl, fun L lp hLs hLm hLl hlp => ?_⟩
    have hLm : ∀ x, x ∈ L ↔ x ∈ 0 :: nums (f ++ s) := fun x => by rw [hLm]; exact decide_eq_true_iff
    have e5 : Same H4 (upd (upd H4 sp (SetO w sp (fun j => decide (j ∈ 0 :: nums (f ++ s))) c)) lp (.lst (L.map V.int))) := (same_new hsp).trans (same_new hlp)
    have hl5 : (upd (upd H4 sp (SetO w sp (fun j => decide (j ∈ 0 :: nums (f ++ s))) c)) lp (.lst (L.map V.int))) lp = some (.lst (L.map V.int)) := upd_same
    refine ⟨lp, _, rfl, .of upd_same, ?_⟩
    refine for_it (walk_enum (xs := L.map V.int)) (fun i σ' H' => (∃ a b, σ' = [some (.ref p), some (.ref q), some (.ref n), some (.ref d), a, b, none]) ∧ Same H H' ∧ H' lp = some (.lst (L.map V.int)) ∧
      ∃ kvs, H' d = some (.dK kvs) ∧ kvs.length ≤ i ∧ ∀ j (hj : j < L.length), j < i → valV kvs (Sum.inl L[j]) = some (.int (j : Nat))) ?_ ?_ ?_ ?_
    · exact ⟨⟨_, _, rfl⟩, e4.trans e5, hl5, [], e5 _ _ hd4, Nat.le_refl _, fun j _ h => by omega⟩
    · rintro i σ' H' _ ⟨_, _, h, _⟩
      exact .of h
    · rintro i x σ' H5 H6 hi ⟨⟨a, b, rfl⟩, eH, hlp5, kvs, hd5, hkl, hkv⟩ ⟨T5, x, y, rfl, hT5, rfl, rfl', hy⟩
      cases rfl'
      rw [List.length_map] at hi
      have hy' : y = .int L[i] := by
        simp [List.getElem?_map, List.getElem?_eq_getElem hi] at hy
        exact hy.symm
      subst hy'
      refine ⟨_, _, rfl, .of upd_same, rfl, _, _, rfl, _, _, rfl, rfl, ?_⟩
      have hd6 : (upd H5 T5 (.tup [.int (i : Nat), .int L[i]])) d = some (.dK kvs) := by
        rw [upd_ne (ne_of_none hd5 hT5)]; exact hd5
      refine ⟨_, rfl, _, rfl, _, rfl, d, _, rfl, DPut.k (k := Sum.inl L[i]) hd6 ?_, ?_⟩
      · have : L.length < 64 := by omega
        exact Nat.lt_trans (m := 64) (by omega) (by decide)
      · refine ⟨⟨_, _, rfl⟩, same_mut (eH.trans (same_new hT5)) hHd, ?_, _, upd_same, ?_, fun j hj hji => ?_⟩
        · have h6 := (same_new (o := .tup [V.int (i : Nat), .int L[i]]) hT5) _ _ hlp5
          rw [upd_ne (ne_of h6 hd6 (by intro z; cases z))]
          exact h6
        · exact Nat.le_trans (putK_len' _ _ _) (by omega)
        · rw [valV_put]
          have inj : (L[j] = L[i]) ↔ j = i := ⟨fun z => by
            rcases Nat.lt_trichotomy j i with c | c | c
            · have := List.pairwise_iff_getElem.mp hLs j i hj hi c; omega
            · exact c
            · have := List.pairwise_iff_getElem.mp hLs i j hi hj c; omega, fun z => by subst z; rfl⟩
          by_cases c : j = i
          · subst c; rw [if_pos rfl]
          · rw [if_neg (fun z => c (inj.mp (Sum.inl.inj z)))]
            exact hkv j hj (by omega)
    · rintro σ' H5 ⟨⟨a, b, rfl⟩, eH, hlp5, kvs, hd5, hkl, hkv⟩
      rw [List.length_map] at hkv
      have hr : ∀ x, x ∈ 0 :: nums (f ++ s) → valV kvs (Sum.inl x) = some (.int (rank (0 :: nums (f ++ s)) x)) := fun x hx => by
        obtain ⟨j, hj, rfl⟩ := List.mem_iff_getElem.mp ((hLm x).mpr hx)
        rw [rank_sorted hLs hLm hj]
        exact hkv j hj hj
      have hna : nums (f ++ s) = nums f ++ nums s := List.filterMap_append
      refine ⟨_, rfl, _, rfl, ?_⟩
      refine ⟨_, d, f, kvs, rank (0 :: nums (f ++ s)), rfl, Dp.mono eH _ _ hv, Nat.le_trans f2 (by decide), hd5, fun b hb => hr b (List.mem_cons_of_mem _ (by rw [hna]; exact List.mem_append_left _ hb)), fun v1 H7 e7 d7 => ?_⟩
      refine ⟨_, rfl, _, rfl, ?_⟩
      refine ⟨_, d, s, kvs, rank (0 :: nums (f ++ s)), rfl, Dp.mono (eH.trans e7) _ _ hu, Nat.le_trans s2 (by decide), e7 _ _ hd5, fun b hb => hr b (List.mem_cons_of_mem _ (by rw [hna]; exact List.mem_append_right _ hb)), fun v2 H8 e8 d8 => ?_⟩
      refine ⟨by show 2 ≤ sizeLine; decide, fun t ht => ?_⟩
      exact k _ _ (((eH.trans e7).trans e8).trans (same_new ht)) (Dp.newT ht (.cons (Dp.mono e8 _ _ d7) (.cons d8 .nil)))
end
end K98
set_option Elab.async false
set_option linter.all false
set_option maxRecDepth 100000
set_option maxHeartbeats 4000000
namespace K98
open PySem PySem.Spec PyProof.Rows L2 Ru He6
open C8 (Cal pe_c)
/-! ### makes -/
section
variable {P : Program} {w : World} {K : PySem.W.Frag} {mg : Str → Option Value} {base : Heap}
theorem cls_of (T : TT K mg) : ∀ n, Cls K (clsOf K n)
  | 0 => c_Make T
  | 1 => c_StrictMake T
  | _ + 2 => c_OwnMake T
theorem na_dates (T : TT K mg) : ∀ n, NoAttr K (clsOf K n) "dates"
  | 0 => n_Make_dates T
  | 1 => n_StrictMake_dates T
  | _ + 2 => n_OwnMake_dates T
theorem na_tells (T : TT K mg) : ∀ n, NoAttr K (clsOf K n) "tells"
  | 0 => n_Make_tells T
  | 1 => n_StrictMake_tells T
  | _ + 2 => n_OwnMake_tells T
theorem na_checks (T : TT K mg) : ∀ n, NoAttr K (clsOf K n) "checks"
  | 0 => n_Make_checks T
  | 1 => n_StrictMake_checks T
  | _ + 2 => n_OwnMake_checks T
theorem na_shared (T : TT K mg) : ∀ n, NoAttr K (clsOf K n) "shared"
  | 0 => n_Make_shared T
  | 1 => n_StrictMake_shared T
  | _ + 2 => n_OwnMake_shared T
theorem na_grace (T : TT K mg) : ∀ n, NoAttr K (clsOf K n) "grace"
  | 0 => n_Make_grace T
  | 1 => n_StrictMake_grace T
  | _ + 2 => n_OwnMake_grace T
theorem me_initial_age (T : TT K mg) : ∀ n, Meth K (clsOf K n) "initial_age" (He.ma K (He.ga K "Make") "initial_age")
  | 0 => m_Make_initial_age T
  | 1 => of_decide_eq_true (x_11 T) ▸ m_StrictMake_initial_age T
  | _ + 2 => of_decide_eq_true (x_17 T) ▸ m_OwnMake_initial_age T
theorem me_keeps (T : TT K mg) : ∀ n, Meth K (clsOf K n) "keeps" (He.ma K (He.ga K "Make") "keeps")
  | 0 => m_Make_keeps T
  | 1 => of_decide_eq_true (x_10 T) ▸ m_StrictMake_keeps T
  | _ + 2 => of_decide_eq_true (x_14 T) ▸ m_OwnMake_keeps T
theorem me_lifetime (T : TT K mg) : ∀ n, Meth K (clsOf K n) "lifetime" (He.ma K (He.ga K "Make") "lifetime")
  | 0 => m_Make_lifetime T
  | 1 => of_decide_eq_true (x_9 T) ▸ m_StrictMake_lifetime T
  | _ + 2 => of_decide_eq_true (x_13 T) ▸ m_OwnMake_lifetime T
/-- any of the three classes -/
abbrev MkS (K : PySem.W.Frag) (sp : Sp) : Addr → Sp → Prop := fun C s => ∃ n, C = clsOf K n ∧ s = sp
theorem mk_all {k : Nat} {m : Str} {sp : Sp} (h : ∀ n, MetS P w K mg base k (clsOf K n) m sp) : ∀ C s, MkS K sp C s → MetS P w K mg base k C m s := fun C s ⟨n, h1, h2⟩ => by
  subst h1 h2
  exact h n
def iniAge (dates : Bool) (told s : Int) : Int := if dates = true then (if s > told then s else told) else told
theorem sc_Make_initial_age : FnScope ["self", "told", "date", "arrived"] ["self", "told", "date", "arrived"] (defScope s_Make_initial_age) := ⟨rfl, rfl, rfl, by decide +kernel, rfl, by decide +kernel, by decide +kernel⟩
def sp_Make_initial_age (K : PySem.W.Frag) : Sp := fun vs H Q _ => ∃ a t s m, vs = [.ref a, .int t, .int 0, .int s] ∧ MakeAt K H a m ∧ Q (.int (iniAge m.dates t s)) H
theorem ok_Make_initial_age (T : TT K mg) (n : Nat) : MetS P w K mg base 1 (clsOf K n) "initial_age" (sp_Make_initial_age K) := by
  refine met_of (f_Make_initial_age T) (cls_of T n) (me_initial_age T n) sc_Make_initial_age (fun _ _ _ _ _ _ us hl => match us, hl with | [_, _, _, _], _ => rfl) (fun vs H Q E h => ?_) (fun cdv A outer s H vs Q E hr h => ?_)
  · obtain ⟨a, t, s, m, rfl, hm, k⟩ := h; rfl
  · obtain ⟨a, t, s, m, rfl, hm, k⟩ := h
    refine ⟨_, (pss_cons (ps_if (PW.pt (pw_and (pt_val (pe_fld (pv 0) rfl)) (pw_and1 (pt_cmp (pc_notN (pv 2))))))
      (pss_one (ps_ret (pe_callB (call_max2 rfl) (by rfl) (b_max T) (by decide +kernel) (pa_cons (pv 1) (pa_cons (pe_op op_sub (pv 3) (pv 2)) pa_nil)))))
      pss_nil)
      (pss_one (ps_ret (pv 1)))), ?_⟩
    obtain ⟨dx, hm⟩ := hm
    refine ⟨_, rfl, _, _, _, _, _, rfl, hm, cls_of T _, na_dates T _, mkF_dates m, ?_⟩
    cases e : m.dates with
    | true =>
      refine ⟨_, rfl, iteT ⟨_, rfl, _, rfl, iteT ⟨_, rfl, _, rfl, _, rfl, _, _, rfl, rfl, _, _, rfl, ?_⟩⟩⟩
      rw [e] at k
      simpa [iniAge] using k
    | false =>
      refine ⟨_, rfl, iteF (iteF ⟨_, rfl, ?_⟩)⟩
      rw [e] at k
      exact k
end
end K98
set_option Elab.async false
set_option linter.all false
set_option maxRecDepth 100000
set_option maxHeartbeats 4000000
namespace K98
open PySem PySem.Spec PyProof.Rows L2 Ru He6
open C8 (Cal pe_c)
/-! ### an ask -/
structure Ask where
  row : Row
  b : Int
  s : Int
  told : Int
def askS : Chain → Row → Ask
  | h :: c, some (b, a, s) :: st => ⟨some (b, a, s) :: st, b, s, if h.tells = true then a else 0⟩
  | h :: c, none :: st =>
    let r := askS c st
    let a := iniAge h.dates r.told r.s
    ⟨(if a < h.lim then some (r.b, a, r.s) else none) :: r.row, r.b, r.s, if h.tells = true then a else 0⟩
  | _, st => ⟨st, 0, 0, 0⟩
/-- hop: from one -/
def asked (c : Chain) (st : Row) (hop : Nat) : Ask := let r := askS (c.drop (hop - 1)) (st.drop (hop - 1)); { r with row := st.take (hop - 1) ++ r.row }
theorem askS_len : ∀ (c : Chain) (st : Row), (askS c st).row.length = st.length
  | [], _ => rfl
  | _ :: _, [] => rfl
  | _ :: _, some _ :: _ => rfl
  | _ :: c, none :: st => congrArg Nat.succ (askS_len c st)
theorem askS_none {c : Chain} {st : Row} {j : Nat} (hc : j < c.length) (hs : st[j]? = some none) : askS (c.drop j) (st.drop j) =
    (let r := askS (c.drop (j + 1)) (st.drop (j + 1)); let a := iniAge c[j].dates r.told r.s; ⟨(if a < c[j].lim then some (r.b, a, r.s) else none) :: r.row, r.b, r.s, if c[j].tells = true then a else 0⟩) := by
  obtain ⟨h1, h2⟩ := List.getElem?_eq_some_iff.mp hs
  rw [List.drop_eq_getElem_cons hc, List.drop_eq_getElem_cons h1, h2]
  rfl
theorem askS_some {c : Chain} {st : Row} {j : Nat} {b a s : Int} (hc : j < c.length) (hs : st[j]? = some (some (b, a, s))) : askS (c.drop j) (st.drop j) = ⟨st.drop j, b, s, if c[j].tells = true then a else 0⟩ := by
  obtain ⟨h1, h2⟩ := List.getElem?_eq_some_iff.mp hs
  rw [List.drop_eq_getElem_cons hc, List.drop_eq_getElem_cons h1, h2]
  rfl
theorem askS_nil {c : Chain} {st : Row} {j : Nat} (hc : c.length ≤ j) : askS (c.drop j) (st.drop j) = ⟨st.drop j, 0, 0, 0⟩ := by
  rw [List.drop_eq_nil_of_le hc]; rfl
theorem atI_eq {α : Type} {xs : List α} {j : Nat} {i : Int} {v : α} (e : i = (j : Int)) (h : xs[j]? = some v) : atI xs i = some v := by subst e; exact atI_nat h
theorem ixN_eq {n j : Nat} {i : Int} (e : i = (j : Int)) (h : j < n) : ixN n i = some j := by
  subst e
  unfold ixN
  simp [h]
theorem sq_c {u : TS} {D : Ends} {σ : L2.St} {H : Hp} {v : V} {i : Nat} (h : u D (σ.set i (some v)) H) : tSeq (tAsg (tC v) (gName i)) u D σ H := h
theorem seqM {t u : TS} {D : Ends} {σ : L2.St} {H : Hp} (M : L2.St → Hp → Prop) (h1 : ∀ Nx : L2.St → Hp → Prop, (∀ σ' H', M σ' H' → Nx σ' H') → t { D with nx := Nx } σ H) (h2 : ∀ σ' H', M σ' H' → u D σ' H') : tSeq t u D σ H := h1 _ h2
section
variable {P : Program} {w : World} {K : PySem.W.Frag} {mg : Str → Option Value} {base : Heap}
theorem sc_after_ask : FnScope ["chain", "state", "hop", "teller", "behind", "since", "age_told", "age", "make", "entries", "at", "limit"] ["chain", "state", "hop"] (defScope s_after_ask) := ⟨rfl, rfl, rfl, by decide +kernel, rfl, by decide +kernel, by decide +kernel⟩
def sp_after_ask (K : PySem.W.Frag) : Sp := fun vs H Q _ => ∃ p v c st hop, vs = [.ref p, v, .int (hop : Nat)] ∧ ChainAt K H p c ∧ Dp K H v (dS st) ∧ st.length = c.length ∧ st.length ≤ 1000 ∧ 1 ≤ hop ∧ hop ≤ c.length ∧ ∀ v' H', Same H H' → Dp K H' v' (.tuple [dS (asked c st hop).row, .tuple [.int (asked c st hop).b, .int (asked c st hop).told]]) → Q v' H'
theorem ok_after_ask (T : TT K mg) : Cal P w K mg base 2 "after_ask" (sp_after_ask K) [] := by
  refine cal_of (f_after_ask T) (g_after_ask T) sc_after_ask (fun _ _ _ _ _ _ us hl => match us, hl with | [_, _, _], _ => rfl) (fun vs H Q E h => ?_) (fun cdv A outer s H vs Q E hr h => ?_)
  · obtain ⟨p, v, c, st, hop, rfl, hc, hv, hle, hlen, h1, h2, k⟩ := h; rfl
  · obtain ⟨p, v, c, st, hop, rfl, hc, hv, hle, hlen, h1, h2, k⟩ := h
    refine ⟨_, (pss_cons (ps_set (i := 3) sc_after_ask.nd rfl (.inl rfl) (pv 2))
      (pss_cons (ps_while PassesOwn.never (PW.pt (pw_and (pt_cmpR op_le (pv 3) (pe_callB call_len_seq (by rfl) (b_len T) PySem.boot_len (pa_cons (pv 0) pa_nil)) (nomark _)) (pw_and1 (pt_cmp (pc_isN (pe_ix ix_tup (pv 1) (pe_op op_sub (pv 3) pe_int) (fun _ _ => rfl)))))))
      (pss_one (ps_aug (i := 3) sc_after_ask.nd rfl (.inl rfl) pe_int ip_add)))
      (pss_cons (ps_set (i := 4) sc_after_ask.nd rfl (.inl rfl) pe_int)
      (pss_cons (ps_set (i := 5) sc_after_ask.nd rfl (.inl rfl) pe_int)
      (pss_cons (ps_set (i := 6) sc_after_ask.nd rfl (.inl rfl) pe_int)
      (pss_cons (ps_if (pt_cmpR op_le (pv 3) (pe_callB call_len_seq (by rfl) (b_len T) PySem.boot_len (pa_cons (pv 0) pa_nil)) (nomark _))
      (pss_cons (ps_asg (pe_ix ix_tup (pv 1) (pe_op op_sub (pv 3) pe_int) (fun _ _ => rfl)) (pg_tup (n := 3) rfl (pgs_cons (pg_name (i := 4) sc_after_ask.nd rfl (.inl rfl)) (pgs_cons (pg_name (i := 7) sc_after_ask.nd rfl (.inl rfl)) (pgs_cons (pg_name (i := 5) sc_after_ask.nd rfl (.inl rfl)) pgs_nil)))))
      (pss_cons (ps_set (i := 8) sc_after_ask.nd rfl (.inl rfl) (pe_ix ix_tup (pe_ix ix_list (pv 0) (pe_op op_sub (pv 3) pe_int) (fun _ _ => rfl)) pe_int (fun _ _ => rfl)))
      (pss_one (ps_set (i := 6) sc_after_ask.nd rfl (.inl rfl) (pe_ifExp (pt_val (pe_fld (pv 8) rfl)) (pv 7) pe_int)))))
      pss_nil)
      (pss_cons (ps_set (i := 9) sc_after_ask.nd rfl (.inl rfl) (pe_callTy call_list_of (by rfl) (b_list T) (by decide +kernel) (pa_cons (pv 1) pa_nil)))
      (pss_cons (ps_for PassesOwn.never rfl (pi_range3 (by rfl) (b_range T) (pa_cons (pe_op op_sub (pv 3) pe_int) (pa_cons (pe_op op_sub (pv 2) pe_int) (pa_cons (pe_un un_neg pe_int) pa_nil)))) (pg_name (i := 10) sc_after_ask.nd rfl (.inl rfl))
      (pss_cons (ps_asg (pe_ix ix_list (pv 0) (pv 10) (fun _ _ => rfl)) (pg_tup (n := 2) rfl (pgs_cons (pg_name (i := 8) sc_after_ask.nd rfl (.inl rfl)) (pgs_cons (pg_name (i := 11) sc_after_ask.nd rfl (.inl rfl)) pgs_nil))))
      (pss_cons (ps_set (i := 7) sc_after_ask.nd rfl (.inl rfl) (pe_methSt (pl := _) (pv 8) (mk_all (ok_Make_initial_age T)) hr (by decide) (pa_cons (pv 6) (pa_cons pe_int (pa_cons (pv 5) pa_nil)))))
      (pss_cons (ps_asg (pe_ifExp (pt_cmpR op_lt (pv 7) (pv 11) (nomark _)) (pe_tup (pa_cons (pv 4) (pa_cons (pv 7) (pa_cons (pv 5) pa_nil)))) pe_non) (pg_sub (pv 9) (pv 10) set_list))
      (pss_one (ps_set (i := 6) sc_after_ask.nd rfl (.inl rfl) (pe_ifExp (pt_val (pe_fld (pv 8) rfl)) (pv 7) pe_int)))))))
      (pss_one (ps_ret (pe_tup (pa_cons (pe_tupleOf (by rfl) (b_tuple T) (pv 9)) (pa_cons (pe_tup (pa_cons (pv 4) (pa_cons (pv 6) pa_nil))) pa_nil))))))))))))), ?_⟩
    obtain ⟨q, xs, rfl, hs, ha⟩ := row_at hv
    obtain ⟨ys, g1, g2, g3⟩ := hc
    have hxl := row_len ha
    refine ⟨_, rfl, ?_⟩
    refine seqM (t := tWhile _ _) (fun σ H' => H' = H ∧ ∃ t : Nat, σ = [some (.ref p), some (.ref q), some (.int hop), some (.int t), none, none, none, none, none, none, none, none] ∧ hop ≤ t ∧ t ≤ c.length + 1 ∧ (∀ j, hop - 1 ≤ j → j < t - 1 → st[j]? = some none) ∧
      (t ≤ c.length → ∃ z, st[t - 1]? = some (some z))) (fun Nx hNx => ?_) ?_
    · refine while_c (fun σ H' => H' = H ∧ ∃ t : Nat, σ = [some (.ref p), some (.ref q), some (.int hop), some (.int t), none, none, none, none, none, none, none, none] ∧ hop ≤ t ∧ t ≤ c.length + 1 ∧ (∀ j, hop - 1 ≤ j → j < t - 1 → st[j]? = some none))
        (fun (σ : L2.St) _ => match σ[3]? with | some (some (V.int t)) => c.length + 1 - t.toNat | _ => 0) ⟨rfl, hop, rfl, Nat.le_refl _, by omega, fun j a b => by omega⟩ ?_
      rintro σ' H' ⟨rfl, t, rfl, t1, t2, t3⟩
      by_cases ct : t ≤ c.length
      · obtain ⟨x, hx, dx⟩ := row_get ha (i := t - 1) (by omega)
        have hst : st[t - 1]? = some (st[t - 1]'(by omega)) := List.getElem?_eq_getElem _
        generalize st[t - 1]'(by omega) = e at dx hst
        refine ⟨e.isNone, fun Z hZ => ?_, fun hb => ?_, fun hb => ?_⟩
        · refine ⟨_, rfl, _, rfl, ⟨p, ys, rfl, .inl g1, t, ys.length, rfl, rfl, _, rfl, ?_⟩⟩
          refine iteTd (by omega) ⟨_, rfl, _, rfl, _, _, rfl, rfl, q, xs, _, x, rfl, rfl, hs, atI_eq (j := t - 1) (by omega) hx, _, rfl, ?_⟩
          cases e with
          | none => have := ent_non dx; subst this; exact hZ
          | some z => obtain ⟨_, rfl, _⟩ := ent_some dx; exact hZ
        · have : e = none := by cases e with | none => rfl | some _ => cases hb
          subst this
          refine ⟨_, rfl, _, _, rfl, rfl, ⟨⟨rfl, t + 1, rfl, by omega, by omega, fun j a b => ?_⟩, ?_⟩⟩
          · by_cases cj : j = t - 1
            · subst cj; exact hst
            · exact t3 j a (by omega)
          · show c.length + 1 - ((t : Int) + 1).toNat < c.length + 1 - (t : Int).toNat
            omega
        · refine hNx _ _ ⟨rfl, t, rfl, t1, t2, t3, fun _ => ?_⟩
          cases e with
          | none => cases hb
          | some z => exact ⟨z, hst⟩
      · refine ⟨false, fun Z hZ => ?_, (fun hb => by cases hb), fun _ => hNx _ _ ⟨rfl, t, rfl, t1, t2, t3, fun z => absurd z ct⟩⟩
        exact ⟨_, rfl, _, rfl, ⟨p, ys, rfl, .inl g1, t, ys.length, rfl, rfl, _, rfl, iteFd (by omega) hZ⟩⟩
    rintro σ' H' ⟨rfl, t, rfl, t1, t2, t3, t4⟩
    have htc : ∀ i (h : i < c.length), ∃ y pl am m dx, ys[i]? = some y ∧ y = .ref pl ∧ SqT K H' pl [.ref am, .int c[i].lim] ∧ H' am = some (.ins (clsOf K m.tag) dx (mkF m)) ∧ m.tells = c[i].tells ∧ m.dates = c[i].dates := fun i h => by
      obtain ⟨y, y1, pl, am, rfl, y2, m, ⟨dx, y3⟩, y4, y5⟩ := g3 i c[i] (List.getElem?_eq_getElem h)
      exact ⟨_, pl, am, m, dx, y1, rfl, y2, y3, y4, y5⟩
    let r0 := askS (c.drop (t - 1)) (st.drop (t - 1))
    refine sq_c (sq_c (sq_c ?_))
    refine seqM (t := tIfS _ _ _) (fun σ H2 => H' = H2 ∧ ∃ x7 x8, σ = [some (.ref p), some (.ref q), some (.int hop), some (.int t), some (.int r0.b), some (.int r0.s), some (.int r0.told), x7, x8, none, none, none]) (fun Nx hNx => ?_) ?_
    · by_cases ct : t ≤ c.length
      · obtain ⟨z, hz⟩ := t4 ct
        obtain ⟨b, a, s'⟩ := z
        have hr0 : r0 = ⟨st.drop (t - 1), b, s', if c[t - 1].tells = true then a else 0⟩ := askS_some (by omega) hz
        obtain ⟨x, hx, dx⟩ := DpAll.get ha (i := t - 1) (d := dE (some (b, a, s'))) (by rw [List.getElem?_map, hz]; rfl)
        obtain ⟨px, rfl, hpx⟩ := ent_some dx
        obtain ⟨y, pl, am, m, dxm, y1, rfl, y2, y3, y4, y5⟩ := htc (t - 1) (by omega)
        refine ⟨_, rfl, _, rfl, ⟨p, ys, rfl, .inl g1, t, ys.length, rfl, rfl, _, rfl, ?_⟩⟩
        refine iteTd (by omega) ⟨_, rfl, _, rfl, _, _, rfl, rfl, q, xs, _, _, rfl, rfl, hs, atI_eq (j := t - 1) (by omega) hx, _, _, rfl, hpx, rfl, _, _, rfl, _, _, rfl, _, _, rfl, rfl, ?_⟩
        refine ⟨_, rfl, _, rfl, _, _, rfl, rfl, p, ys, _, _, rfl, rfl, g1, atI_eq (j := t - 1) (by omega) y1, pl, _, _, _, rfl, rfl, y2, rfl, ?_⟩
        refine ⟨_, rfl, _, _, _, _, _, rfl, y3, cls_of T _, na_tells T _, mkF_tells m, ?_⟩
        refine ⟨_, rfl, ?_⟩
        cases e : m.tells with
        | true =>
          refine iteT ⟨_, rfl, hNx _ _ ⟨rfl, some (.int a), some (.ref am), ?_⟩⟩
          rw [hr0, ← y4, e]; rfl
        | false =>
          refine iteF (hNx _ _ ⟨rfl, some (.int a), some (.ref am), ?_⟩)
          rw [hr0, ← y4, e]; rfl
      · refine ⟨_, rfl, _, rfl, ⟨p, ys, rfl, .inl g1, t, ys.length, rfl, rfl, _, rfl, iteFd (by omega) (hNx _ _ ⟨rfl, none, none, ?_⟩)⟩⟩
        have hr0 : r0 = ⟨st.drop (t - 1), 0, 0, 0⟩ := askS_nil (by omega)
        rw [hr0]; rfl
    rintro σ' _ ⟨rfl, x7, x8, rfl⟩
    refine ⟨_, rfl, q, xs, rfl, .inr hs, fun L hL => ?_⟩
    have hr0 : r0.row = st.drop (t - 1) := by
      by_cases ct : t ≤ c.length
      · obtain ⟨⟨b, a, s'⟩, hz⟩ := t4 ct
        exact congrArg Ask.row (askS_some (by omega) hz)
      · exact congrArg Ask.row (askS_nil (j := t - 1) (by omega))
    refine ⟨_, rfl, _, _, rfl, rfl, _, rfl, _, _, rfl, rfl, _, rfl, (t : Int) - 2, (hop : Int) - 2, -1, t - hop, rfl, ?_, ?_⟩
    · have := RgC.neg (i := (t : Int) - 2) (j := (hop : Int) - 2) (by omega) (by omega) (by omega) (by omega)
      rw [show ((t : Int) - 2 - ((hop : Int) - 2)).toNat = t - hop by omega] at this
      exact this
    refine for_rangeC (fun i σ H2 => ∃ es x7 x8 x10 x11, Same H' H2 ∧ H2 L = some (.lst es) ∧
        σ = [some (.ref p), some (.ref q), some (.int hop), some (.int t), some (.int r0.b), some (.int r0.s), some (.int (askS (c.drop (t - 1 - i)) (st.drop (t - 1 - i))).told), x7, x8, some (.ref L), x10, x11] ∧
        (askS (c.drop (t - 1 - i)) (st.drop (t - 1 - i))).b = r0.b ∧ (askS (c.drop (t - 1 - i)) (st.drop (t - 1 - i))).s = r0.s ∧
        es.length = st.length ∧ ∀ (j : Nat) (v : V), es[j]? = some v → ∃ e, (st.take (t - 1 - i) ++ (askS (c.drop (t - 1 - i)) (st.drop (t - 1 - i))).row)[j]? = some e ∧ Dp K H2 v (dE e)) ?_ ?_ ?_
    · refine ⟨xs, x7, x8, none, none, same_new hL, upd_same, rfl, rfl, rfl, hxl, fun j v hj => ?_⟩
      obtain ⟨e, h1, h2⟩ := row_get' ha hj
      refine ⟨e, ?_, Dp.mono (same_new hL) _ _ h2⟩
      show (st.take (t - 1) ++ r0.row)[j]? = _
      rw [hr0, List.take_append_drop]; exact h1
    · rintro i σ H2 hi ⟨es, x7, x8, x10, x11, e, hes, rfl, hb, hss, hle2, hall⟩
      have hj1 : t - 1 - i = (t - 1 - (i + 1)) + 1 := by omega
      generalize hj : t - 1 - (i + 1) = j at hj1 ⊢
      rw [hj1] at hb hss hall ⊢
      have hjc : j < c.length := by omega
      have hst : st[j]? = some none := t3 j (by omega) (by omega)
      obtain ⟨y, pl, am, m, dxm, y1, rfl, y2, y3, y4, y5⟩ := htc j hjc
      have key := askS_none hjc hst
      generalize hr : askS (c.drop (j + 1)) (st.drop (j + 1)) = r at key hb hss hall
      dsimp only at key
      refine ⟨_, rfl, _, rfl, p, ys, _, _, rfl, rfl, Evl.ex_l e g1, atI_eq (j := j) (by omega) y1, pl, _, rfl, Evl.ex_t e y2, rfl, _, _, rfl, _, _, rfl, rfl, ?_⟩
      refine ⟨_, rfl, _, _, am, dxm, mkF m, ⟨_, rfl, rfl⟩, rfl, e _ _ y3, mkF_none m, _, rfl, _, rfl, ?_⟩
      refine ⟨am, _, _, m, rfl, ⟨dxm, e _ _ y3⟩, ?_⟩
      have hLH : H' L = none := hL
      have a0e : iniAge m.dates r.told r0.s = iniAge c[j].dates r.told r.s := by rw [y5, hss]
      rw [a0e]
      generalize ha0 : iniAge c[j].dates r.told r.s = a0 at key ⊢
      have hidx : (t : Int) - 2 + (i : Nat) * (-1) = (j : Nat) := by omega
      have hjes : j < es.length := by rw [hle2, hle]; exact hjc
      have fin : ∀ (H3 : Hp) (v : V), Same H2 H3 → Dp K H3 v (dE (if a0 < c[j].lim then some (r.b, a0, r.s) else none)) → H3 L = some (.lst es) →
          (Same H' (upd H3 L (.lst (es.set j v))) ∧ (upd H3 L (.lst (es.set j v))) L = some (.lst (es.set j v)) ∧ (es.set j v).length = st.length ∧
            ∀ (j1 : Nat) (u : V), (es.set j v)[j1]? = some u → ∃ e, (st.take j ++ (askS (c.drop j) (st.drop j)).row)[j1]? = some e ∧ Dp K (upd H3 L (.lst (es.set j v))) u (dE e)) := fun H3 v e3 d3 h3 => by
        have sl : SameL H3 (upd H3 L (.lst (es.set j v))) := (SameL.refl _).mut h3
        refine ⟨same_mut (e.trans e3) hLH, upd_same, by rw [List.length_set, hle2], fun j1 u hu => ?_⟩
        have hstlen : (st.take j).length = j := by rw [List.length_take]; omega
        rw [key]
        by_cases cj : j1 = j
        · subst cj
          rw [List.getElem?_set_self hjes] at hu
          cases hu
          refine ⟨_, ?_, Dp.monoL sl _ _ (noL_dE _) d3⟩
          rw [List.getElem?_append_right (by omega), hstlen, Nat.sub_self]; rfl
        · rw [List.getElem?_set_ne (fun z => cj z.symm)] at hu
          obtain ⟨e', q1, q2⟩ := hall j1 u hu
          refine ⟨e', ?_, Dp.monoL ((SameL.of e3).trans sl) _ _ (noL_dE _) q2⟩
          rw [← q1]
          have hl2 : (st.take (j + 1)).length = j + 1 := by rw [List.length_take]; omega
          by_cases cl : j1 < j
          · rw [List.getElem?_append_left (by omega), List.getElem?_append_left (by omega), List.getElem?_take_of_lt cl, List.getElem?_take_of_lt (by omega)]
          · rw [List.getElem?_append_right (by omega), List.getElem?_append_right (by omega), hstlen, hl2]
            show (_ :: r.row)[j1 - j]? = _
            rw [show j1 - j = (j1 - (j + 1)) + 1 by omega]
            rfl
      have fin2 : ∀ (H4 : Hp) (es' : List V) (x10 : Option V), Same H' H4 → H4 L = some (.lst es') → es'.length = st.length →
          (∀ (j1 : Nat) (u : V), es'[j1]? = some u → ∃ e, (st.take j ++ (askS (c.drop j) (st.drop j)).row)[j1]? = some e ∧ Dp K H4 u (dE e)) →
          ∃ (es : List V) (x7 x8 x10' x11 : Option V), Same H' H4 ∧ H4 L = some (.lst es) ∧
            [some (.ref p), some (.ref q), some (.int hop), some (.int t), some (.int r0.b), some (.int r0.s), some (.int (if c[j].tells = true then a0 else 0)), some (.int a0), some (.ref am), some (.ref L), x10, some (.int c[j].lim)] =
            [some (.ref p), some (.ref q), some (.int hop), some (.int t), some (.int r0.b), some (.int r0.s), some (.int (askS (c.drop j) (st.drop j)).told), x7, x8, some (.ref L), x10', x11] ∧
            (askS (c.drop j) (st.drop j)).b = r0.b ∧ (askS (c.drop j) (st.drop j)).s = r0.s ∧ es.length = st.length ∧
            ∀ (j1 : Nat) (u : V), es[j1]? = some u → ∃ e, (st.take j ++ (askS (c.drop j) (st.drop j)).row)[j1]? = some e ∧ Dp K H4 u (dE e) := fun H4 es' x10 q1 q2 q3 q4 =>
        ⟨es', _, _, _, _, q1, q2, by rw [key], by rw [key]; exact hb, by rw [key]; exact hss, q3, q4⟩
      refine ⟨_, rfl, _, rfl, _, _, rfl, rfl, _, rfl, ?_⟩
      have tail : ∀ (H4 : Hp) (es' : List V), Same H' H4 → H4 L = some (.lst es') → es'.length = st.length →
          (∀ (j1 : Nat) (u : V), es'[j1]? = some u → ∃ e, (st.take j ++ (askS (c.drop j) (st.drop j)).row)[j1]? = some e ∧ Dp K H4 u (dE e)) →
          ∃ v, (some (V.ref am)) = some v ∧ ∃ (a : Addr) (C dx : Addr) (fs : List (Str × V)) (u : V), v = .ref a ∧ H4 a = some (.ins C dx fs) ∧ Cls K C ∧ NoAttr K C "tells" ∧ fs.lookup ("tells" : Str) = some u ∧ u = .bl m.tells := fun H4 es' q1 q2 q3 q4 =>
        ⟨_, rfl, am, _, dxm, _, _, rfl, q1 _ _ y3, cls_of T _, na_tells T _, mkF_tells m, rfl⟩
      by_cases cl : a0 < c[j].lim
      · refine iteTd cl ⟨_, rfl, _, rfl, _, rfl, by show 3 ≤ sizeLine; decide, fun pn hpn => ?_⟩
        have d3 : Dp K (upd H2 pn (.tup [.int r0.b, .int a0, .int r0.s])) (.ref pn) (dE (if a0 < c[j].lim then some (r.b, a0, r.s) else none)) := by
          rw [if_pos cl, hb, hss]; exact ent_new
        have h3 : (upd H2 pn (.tup [.int r0.b, .int a0, .int r0.s])) L = some (.lst es) := by rw [upd_ne (ne_of_none hes hpn)]; exact hes
        obtain ⟨f1, f2, f3, f4⟩ := fin _ (.ref pn) (same_new hpn) d3 h3
        refine ⟨_, rfl, _, rfl, L, es, _, j, rfl, rfl, h3, ixN_eq hidx hjes, ?_⟩
        refine ⟨_, rfl, am, _, dxm, _, _, rfl, f1 _ _ y3, cls_of T _, na_tells T _, mkF_tells m, _, rfl, ?_⟩
        rw [y4]
        have z := fin2 _ _ (some (.int ((t : Int) - 2 + (i : Nat) * (-1)))) f1 f2 f3 f4
        cases ct : c[j].tells with
        | true => rw [ct] at z; exact iteT ⟨_, rfl, z⟩
        | false => rw [ct] at z; exact iteF z
      · refine iteFd cl ?_
        have d3 : Dp K H2 .non (dE (if a0 < c[j].lim then some (r.b, a0, r.s) else none)) := by
          rw [if_neg cl]; exact .non
        obtain ⟨f1, f2, f3, f4⟩ := fin _ .non (Same.refl _) d3 hes
        refine ⟨_, rfl, _, rfl, L, es, _, j, rfl, rfl, hes, ixN_eq hidx hjes, ?_⟩
        refine ⟨_, rfl, am, _, dxm, _, _, rfl, f1 _ _ y3, cls_of T _, na_tells T _, mkF_tells m, _, rfl, ?_⟩
        rw [y4]
        have z := fin2 _ _ (some (.int ((t : Int) - 2 + (i : Nat) * (-1)))) f1 f2 f3 f4
        cases ct : c[j].tells with
        | true => rw [ct] at z; exact iteT ⟨_, rfl, z⟩
        | false => rw [ct] at z; exact iteF z
    · rintro σ H2 ⟨es, x7, x8, x10, x11, e, hes, rfl, hb, hss, hle2, hall⟩
      rw [show t - 1 - (t - hop) = hop - 1 by omega] at hb hss hall ⊢
      refine ⟨_, rfl, .inl ⟨_, _, rfl, .of hes, fun tp htp => ?_⟩⟩
      refine ⟨_, rfl, _, rfl, by show 2 ≤ sizeLine; decide, fun tq htq => ?_⟩
      refine ⟨by show 2 ≤ sizeLine; decide, fun tr htr => ?_⟩
      have e1 : Same H2 (upd H2 tp (.tup es)) := same_new htp
      have e2 := e1.trans (same_new (o := .tup [.int r0.b, .int (askS (c.drop (hop - 1)) (st.drop (hop - 1))).told]) htq)
      have hrow : (asked c st hop).row.length = st.length := by
        show (st.take (hop - 1) ++ (askS _ _).row).length = _
        rw [List.length_append, askS_len, List.length_take, List.length_drop]; omega
      refine k _ _ (e.trans (e2.trans (same_new htr))) (Dp.newT htr (.cons (Dp.mono (same_new htq) _ _ (Dp.newT htp (dpAll_of (by rw [List.length_map, hrow]; exact hle2) fun j v hj => ?_))) (.cons ?_ .nil)))
      · obtain ⟨e', q1, q2⟩ := hall j v hj
        exact ⟨dE e', by rw [List.getElem?_map]; show (Option.map dE (st.take (hop - 1) ++ _)[j]?) = _; rw [q1]; rfl, q2⟩
      · show Dp K _ _ (.tuple [.int (askS _ _).b, .int (askS _ _).told])
        rw [hb]
        exact Dp.newT htq (.cons (.int _) (.cons (.int _) .nil))
end
end K98
set_option Elab.async false
set_option linter.all false
set_option maxRecDepth 100000
set_option maxHeartbeats 4000000
namespace K98
open PySem PySem.Spec PyProof.Rows L2 Ru He6
open C8 (Cal pe_c)
/-! ### events, tellings -/
inductive Ev where
  | wait
  | change
  | ask (h : Nat)
abbrev Tell := Option (Int × Int)
def dEv : Ev → PyData
  | .wait => .tuple [.str "wait", .int 1]
  | .change => .tuple [.str "change"]
  | .ask h => .tuple [.str "ask", .int (h : Nat), .none]
def dTl : Tell → PyData
  | none => .none
  | some (b, a) => .tuple [.int b, .int a]
def dP (s : Row × Row) : PyData := .tuple [dS s.1, dS s.2]
def step (c : Chain) (st : Row) : Ev → Row × Tell
  | .wait => (waitRow c st 1, none)
  | .change => (st.map upE, none)
  | .ask h => ((asked c st h).row, some ((asked c st h).b, (asked c st h).told))
def evOk (n : Nat) : Ev → Prop
  | .ask h => 1 ≤ h ∧ h ≤ n
  | _ => True
def alike (ages : Bool) (t u : Tell) : Bool := match t, u with
  | some t, some u => t.1 == u.1 && (!ages || t.2 == u.2)
  | none, none => true
  | _, _ => false
def stepB (c1 c2 : Chain) (s : Row × Row) (e : Ev) : Row × Row := joined (step c1 s.1 e).1 (step c2 s.2 e).1
def alikeB (ages : Bool) (c1 c2 : Chain) (s : Row × Row) (e : Ev) : Bool := alike ages (step c1 s.1 e).2 (step c2 s.2 e).2
theorem waitRow_len {c : Chain} {st : Row} {t : Int} (h : st.length = c.length) : (waitRow c st t).length = st.length := by
  unfold waitRow; rw [List.length_zipWith]; omega
theorem asked_len {c : Chain} {st : Row} {h : Nat} : (asked c st h).row.length = st.length := by
  show (st.take (h - 1) ++ (askS _ _).row).length = _
  rw [List.length_append, askS_len, List.length_take, List.length_drop]; omega
theorem step_len {c : Chain} {st : Row} {e : Ev} (h : st.length = c.length) : (step c st e).1.length = c.length := by
  cases e with
  | wait => exact (waitRow_len h).trans h
  | change => exact (List.length_map ..).trans h
  | ask n => exact asked_len.trans h
theorem noL_dEv (e : Ev) : noL (dEv e) = true := by cases e <;> rfl
theorem noL_dTl (t : Tell) : noL (dTl t) = true := by
  cases t with
  | none => rfl
  | some z => rfl
theorem noL_dP (s : Row × Row) : noL (dP s) = true := by
  show noLs _ = true
  simp only [noLs, noL_dS, Bool.and_self]
section
variable {K : PySem.W.Frag} {H : Hp} {v : V}
theorem ev_wait (h : Dp K H v (dEv .wait)) : ∃ p, v = .ref p ∧ SqT K H p [.str "wait", .int 1] := by
  obtain ⟨p, xs, rfl, hs, ha⟩ := Dp.tupI h
  cases ha with
  | cons h1 ha => cases ha with
    | cons h2 ha => cases ha; cases h1.strI; cases h2.intI; exact ⟨p, rfl, hs⟩
theorem ev_change (h : Dp K H v (dEv .change)) : ∃ p, v = .ref p ∧ SqT K H p [.str "change"] := by
  obtain ⟨p, xs, rfl, hs, ha⟩ := Dp.tupI h
  cases ha with
  | cons h1 ha => cases ha; cases h1.strI; exact ⟨p, rfl, hs⟩
theorem ev_ask {n : Nat} (h : Dp K H v (dEv (.ask n))) : ∃ p, v = .ref p ∧ SqT K H p [.str "ask", .int (n : Nat), .non] := by
  obtain ⟨p, xs, rfl, hs, ha⟩ := Dp.tupI h
  cases ha with
  | cons h1 ha => cases ha with
    | cons h2 ha => cases ha with
      | cons h3 ha => cases ha; cases h1.strI; cases h2.intI; cases h3.nonI; exact ⟨p, rfl, hs⟩
theorem tl_none (h : Dp K H v (dTl none)) : v = .non := h.nonI
theorem tl_some {b a : Int} (h : Dp K H v (dTl (some (b, a)))) : ∃ p, v = .ref p ∧ SqT K H p [.int b, .int a] := by
  obtain ⟨p, xs, rfl, hs, ha⟩ := Dp.tupI h
  cases ha with
  | cons h1 ha => cases ha with
    | cons h2 ha => cases ha; cases h1.intI; cases h2.intI; exact ⟨p, rfl, hs⟩
theorem two_at {d1 d2 : PyData} (h : Dp K H v (.tuple [d1, d2])) : ∃ p a b, v = .ref p ∧ SqT K H p [a, b] ∧ Dp K H a d1 ∧ Dp K H b d2 := by
  obtain ⟨p, xs, rfl, hs, ha⟩ := Dp.tupI h
  cases ha with
  | cons h1 ha => cases ha with
    | cons h2 ha => cases ha; exact ⟨p, _, _, rfl, hs, h1, h2⟩
theorem two_new {d1 d2 : PyData} {a b : V} {p : Addr} (hp : H p = none) (h1 : Dp K H a d1) (h2 : Dp K H b d2) : Dp K (upd H p (.tup [a, b])) (.ref p) (.tuple [d1, d2]) := Dp.newT hp (.cons h1 (.cons h2 .nil))
end
section
variable {P : Program} {w : World} {K : PySem.W.Frag} {mg : Str → Option Value} {base : Heap}
theorem sc_stepped : FnScope ["chain", "state", "event", "word"] ["chain", "state", "event"] (defScope s_stepped) := ⟨rfl, rfl, rfl, by decide +kernel, rfl, by decide +kernel, by decide +kernel⟩
def sp_stepped (K : PySem.W.Frag) : Sp := fun vs H Q _ => ∃ p v u c st e, vs = [.ref p, v, u] ∧ ChainAt K H p c ∧ Dp K H v (dS st) ∧ Dp K H u (dEv e) ∧ evOk c.length e ∧ st.length = c.length ∧ st.length ≤ 1000 ∧ ∀ v' H', Same H H' → Dp K H' v' (.tuple [dS (step c st e).1, dTl (step c st e).2]) → Q v' H'
theorem ok_stepped (T : TT K mg) : Cal P w K mg base 3 "stepped" (sp_stepped K) [] := by
  refine cal_of (f_stepped T) (g_stepped T) sc_stepped (fun _ _ _ _ _ _ us hl => match us, hl with | [_, _, _], _ => rfl) (fun vs H Q E h => ?_) (fun cdv A outer s H vs Q E hr h => ?_)
  · obtain ⟨p, v, u, c, st, e, rfl, hc, hv, hu, hok, hle, hlen, k⟩ := h; rfl
  · obtain ⟨p, v, u, c, st, e, rfl, hc, hv, hu, hok, hle, hlen, k⟩ := h
    refine ⟨_, (pss_cons (ps_set (i := 3) sc_stepped.nd rfl (.inl rfl) (pe_ix ix_tup (pv 2) pe_int (fun _ _ => rfl)))
      (pss_cons (ps_if (pt_cmpR op_eq (pv 3) pe_str (nomark _))
      (pss_one (ps_ret (pe_c (ok_after_ask T) hr (by decide) (by rfl) (pa_cons (pv 0) (pa_cons (pv 1) (pa_cons (pe_ix ix_tup (pv 2) pe_int (fun _ _ => rfl)) pa_nil))))))
      pss_nil)
      (pss_cons (ps_if (pt_cmpR op_eq (pv 3) pe_str (nomark _))
      (pss_one (ps_ret (pe_tup (pa_cons (pe_c (ok_after_wait T) hr (by decide) (by rfl) (pa_cons (pv 0) (pa_cons (pv 1) (pa_cons (pe_ix ix_tup (pv 2) pe_int (fun _ _ => rfl)) pa_nil)))) (pa_cons pe_non pa_nil)))))
      pss_nil)
      (pss_cons (ps_if (pt_cmpR op_eq (pv 3) pe_str (nomark _))
      (pss_one (ps_ret (pe_tup (pa_cons (pe_c (ok_after_change T) hr (by decide) (by rfl) (pa_cons (pv 1) pa_nil)) (pa_cons pe_non pa_nil)))))
      pss_nil)
      (pss_one ps_never))))), ?_⟩
    cases e with
    | wait =>
      obtain ⟨q, rfl, hq⟩ := ev_wait hu
      refine ⟨_, rfl, _, _, _, _, rfl, rfl, hq, rfl, ?_⟩
      refine ⟨_, rfl, rfl, _, rfl, iteF ?_⟩
      refine ⟨_, rfl, rfl, _, rfl, iteT ?_⟩
      refine ⟨_, rfl, _, rfl, _, rfl, _, _, _, _, rfl, rfl, hq, rfl, ?_⟩
      refine ⟨p, v, c, st, 1, rfl, hc, hv, hle, hlen, fun v' H' e' d' => ⟨by show 2 ≤ sizeLine; decide, fun t ht => ?_⟩⟩
      exact k _ _ (e'.trans (same_new ht)) (two_new ht d' .non)
    | change =>
      obtain ⟨q, rfl, hq⟩ := ev_change hu
      refine ⟨_, rfl, _, _, _, _, rfl, rfl, hq, rfl, ?_⟩
      refine ⟨_, rfl, rfl, _, rfl, iteF ?_⟩
      refine ⟨_, rfl, rfl, _, rfl, iteF ?_⟩
      refine ⟨_, rfl, rfl, _, rfl, iteT ?_⟩
      refine ⟨_, rfl, ?_⟩
      refine ⟨v, st, rfl, hv, hlen, fun v' H' e' d' => ⟨by show 2 ≤ sizeLine; decide, fun t ht => ?_⟩⟩
      exact k _ _ (e'.trans (same_new ht)) (two_new ht d' .non)
    | ask n =>
      obtain ⟨q, rfl, hq⟩ := ev_ask hu
      refine ⟨_, rfl, _, _, _, _, rfl, rfl, hq, rfl, ?_⟩
      refine ⟨_, rfl, rfl, _, rfl, iteT ?_⟩
      refine ⟨_, rfl, _, rfl, _, rfl, _, _, _, _, rfl, rfl, hq, rfl, ?_⟩
      exact ⟨p, v, c, st, n, rfl, hc, hv, hle, hlen, hok.1, hok.2, k⟩
theorem sc_told_alike : FnScope ["first", "second", "ages"] ["first", "second", "ages"] (defScope s_told_alike) := ⟨rfl, rfl, rfl, by decide +kernel, rfl, by decide +kernel, by decide +kernel⟩
def sp_told_alike (K : PySem.W.Frag) : Sp := fun vs H Q _ => ∃ v u t r ages, vs = [v, u, .bl ages] ∧ Dp K H v (dTl t) ∧ Dp K H u (dTl r) ∧ (t = none ↔ r = none) ∧ Q (.bl (alike ages t r)) H
theorem ok_told_alike (T : TT K mg) : Cal P w K mg base 1 "told_alike" (sp_told_alike K) [] := by
  refine cal_of (f_told_alike T) (g_told_alike T) sc_told_alike (fun _ _ _ _ _ _ us hl => match us, hl with | [_, _, _], _ => rfl) (fun vs H Q E h => ?_) (fun cdv A outer s H vs Q E hr h => ?_)
  · obtain ⟨v, u, t, r, ages, rfl, hv, hu, hn, k⟩ := h; rfl
  · obtain ⟨v, u, t, r, ages, rfl, hv, hu, hn, k⟩ := h
    refine ⟨_, (pss_cons (ps_if (PW.pt (pw_or (pt_val (pv 2)) (pw_or1 (pt_cmp (pc_isN (pv 0))))))
      (pss_one (ps_ret (pe_cmpR (op_eqD hr.units) (pv 0) (pv 1) (nomark _))))
      pss_nil)
      (pss_one (ps_ret (pe_cmpR op_eq (pe_ix ix_tup (pv 0) pe_int (fun _ _ => rfl)) (pe_ix ix_tup (pv 1) pe_int (fun _ _ => rfl)) (nomark _))))), ?_⟩
    have eqc : PyData.eqv (dTl t) (dTl r) = alike true t r := by
      cases t with
      | none => cases r with
        | none => rfl
        | some z => cases hn.mp rfl
      | some z => cases r with
        | none => cases hn.mpr rfl
        | some y =>
          show (z.1 == y.1 && (z.2 == y.2 && true)) = (z.1 == y.1 && (false || z.2 == y.2))
          simp
    have sh : ∀ t, SeqAt.shaped (dTl t) = true := fun t => by
      cases t with
      | none => rfl
      | some z => rfl
    cases ages with
    | true =>
      refine ⟨_, rfl, _, rfl, iteT (iteT ?_)⟩
      refine ⟨_, rfl, _, rfl, dTl t, dTl r, hv, hu, sh _, sh _, ?_⟩
      rw [eqc]; exact k
    | false =>
      refine ⟨_, rfl, _, rfl, iteF ?_⟩
      cases t with
      | none =>
        have := tl_none hv
        subst this
        have hr' : r = none := hn.mp rfl
        subst hr'
        refine ⟨_, rfl, _, rfl, iteT ?_⟩
        refine ⟨_, rfl, _, rfl, dTl none, dTl none, hv, hu, sh _, sh _, ?_⟩
        exact k
      | some z =>
        obtain ⟨b, a⟩ := z
        obtain ⟨q, rfl, hq⟩ := tl_some hv
        cases r with
        | none => cases hn.mpr rfl
        | some y =>
          obtain ⟨b', a'⟩ := y
          obtain ⟨q', rfl, hq'⟩ := tl_some hu
          refine ⟨_, rfl, _, rfl, iteF ?_⟩
          refine ⟨_, rfl, _, _, _, _, rfl, rfl, hq, rfl, _, rfl, _, _, _, _, rfl, rfl, hq', rfl, rfl, ?_⟩
          rw [dec_int]
          have : alike false (some (b, a)) (some (b', a')) = (b == b') := by simp [alike]
          rw [this] at k
          exact k
end
end K98
set_option Elab.async false
set_option linter.all false
set_option maxRecDepth 100000
set_option maxHeartbeats 4000000
namespace K98
open PySem PySem.Spec PyProof.Rows L2 Ru He6
open C8 (Cal pe_c)
def ChainsAt (K : PySem.W.Frag) (H : Hp) (v : V) (c1 c2 : Chain) : Prop := ∃ p a b, v = .ref p ∧ SqT K H p [.ref a, .ref b] ∧ ChainAt K H a c1 ∧ ChainAt K H b c2
theorem ChainsAt.mono {K : PySem.W.Frag} {H H' : Hp} {v : V} {c1 c2 : Chain} (e : Same H H') : ChainsAt K H v c1 c2 → ChainsAt K H' v c1 c2 := fun ⟨p, a, b, h1, h2, h3, h4⟩ => ⟨p, a, b, h1, Evl.ex_t e h2, h3.mono e, h4.mono e⟩
def evs (n : Nat) : List Ev := [.wait, .change] ++ (List.range n).map fun i => .ask (i + 1)
def p0 (c1 c2 : Chain) : Row × Row := (List.replicate c1.length none, List.replicate c2.length none)
section
variable {P : Program} {w : World} {K : PySem.W.Frag} {mg : Str → Option Value} {base : Heap}
theorem sc_step_both : FnScope ["chains", "pair", "event", "ages", "first", "first_telling", "second", "second_telling"] ["chains", "pair", "event", "ages"] (defScope s_step_both) := ⟨rfl, rfl, rfl, by decide +kernel, rfl, by decide +kernel, by decide +kernel⟩
def sp_step_both (K : PySem.W.Frag) : Sp := fun vs H Q _ => ∃ u v x ages c1 c2 s e, vs = [u, v, x, .bl ages] ∧ ChainsAt K H u c1 c2 ∧ Dp K H v (dP s) ∧ Dp K H x (dEv e) ∧ evOk c1.length e ∧ evOk c2.length e ∧ s.1.length = c1.length ∧ s.2.length = c2.length ∧ 1 ≤ c1.length ∧ c1.length ≤ 20 ∧ 1 ≤ c2.length ∧ c2.length ≤ 20 ∧ ∀ v' H', Same H H' → Dp K H' v' (.tuple [dP (stepB c1 c2 s e), .bool (alikeB ages c1 c2 s e)]) → Q v' H'
theorem ok_step_both (T : TT K mg) : Cal P w K mg base 4 "step_both" (sp_step_both K) [] := by
  refine cal_of (f_step_both T) (g_step_both T) sc_step_both (fun _ _ _ _ _ _ us hl => match us, hl with | [_, _, _, _], _ => rfl) (fun vs H Q E h => ?_) (fun cdv A outer s H vs Q E hr h => ?_)
  · obtain ⟨u, v, x, ages, c1, c2, s, e, rfl, ⟨cp, ca, cb, rfl, hcp, hc1, hc2⟩, hv, hx, o1, o2, l1, l2, m1, m2, n1, n2, k⟩ := h; rfl
  · obtain ⟨u, v, x, ages, c1, c2, s, e, rfl, ⟨cp, ca, cb, rfl, hcp, hc1, hc2⟩, hv, hx, o1, o2, l1, l2, m1, m2, n1, n2, k⟩ := h
    refine ⟨_, (pss_cons (ps_asg (pe_c (ok_stepped T) hr (by decide) (by rfl) (pa_cons (pe_ix ix_tup (pv 0) pe_int (fun _ _ => rfl)) (pa_cons (pe_ix ix_tup (pv 1) pe_int (fun _ _ => rfl)) (pa_cons (pv 2) pa_nil)))) (pg_tup (n := 2) rfl (pgs_cons (pg_name (i := 4) sc_step_both.nd rfl (.inl rfl)) (pgs_cons (pg_name (i := 5) sc_step_both.nd rfl (.inl rfl)) pgs_nil))))
      (pss_cons (ps_asg (pe_c (ok_stepped T) hr (by decide) (by rfl) (pa_cons (pe_ix ix_tup (pv 0) pe_int (fun _ _ => rfl)) (pa_cons (pe_ix ix_tup (pv 1) pe_int (fun _ _ => rfl)) (pa_cons (pv 2) pa_nil)))) (pg_tup (n := 2) rfl (pgs_cons (pg_name (i := 6) sc_step_both.nd rfl (.inl rfl)) (pgs_cons (pg_name (i := 7) sc_step_both.nd rfl (.inl rfl)) pgs_nil))))
      (pss_one (ps_ret (pe_tup (pa_cons (pe_c (ok_joined_state T) hr (by decide) (by rfl) (pa_cons (pv 4) (pa_cons (pv 6) pa_nil))) (pa_cons (pe_c (ok_told_alike T) hr (by decide) (by rfl) (pa_cons (pv 5) (pa_cons (pv 7) (pa_cons (pv 3) pa_nil)))) pa_nil))))))), ?_⟩
    obtain ⟨q, sa, sb, rfl, hq, d1, d2⟩ := two_at hv
    refine ⟨_, rfl, _, _, _, _, rfl, rfl, hcp, rfl, _, rfl, _, _, _, _, rfl, rfl, hq, rfl, _, rfl, ?_⟩
    refine ⟨ca, sa, x, c1, s.1, e, rfl, hc1, d1, hx, o1, l1, by omega, fun r1 H1 e1 r1d => ?_⟩
    obtain ⟨p1, f1, t1, rfl, hp1, f1d, t1d⟩ := two_at r1d
    refine ⟨p1, _, rfl, hp1, rfl, _, _, rfl, _, _, rfl, rfl, ?_⟩
    refine ⟨_, rfl, _, _, _, _, rfl, rfl, Evl.ex_t e1 hcp, rfl, _, rfl, _, _, _, _, rfl, rfl, Evl.ex_t e1 hq, rfl, _, rfl, ?_⟩
    refine ⟨cb, sb, x, c2, s.2, e, rfl, hc2.mono e1, Dp.mono e1 _ _ d2, Dp.mono e1 _ _ hx, o2, l2, by omega, fun r2 H2 e2 r2d => ?_⟩
    obtain ⟨p2, f2, t2, rfl, hp2, f2d, t2d⟩ := two_at r2d
    refine ⟨p2, _, rfl, hp2, rfl, _, _, rfl, _, _, rfl, rfl, ?_⟩
    refine ⟨_, rfl, _, rfl, ?_⟩
    have q1 := step_len (e := e) l1
    have q2 := step_len (e := e) l2
    refine ⟨f1, f2, _, _, rfl, Dp.mono e2 _ _ f1d, f2d, by omega, by omega, by omega, by omega, fun r3 H3 e3 r3d => ?_⟩
    refine ⟨_, rfl, _, rfl, _, rfl, ?_⟩
    refine ⟨t1, t2, _, _, ages, rfl, Dp.mono (e2.trans e3) _ _ t1d, Dp.mono e3 _ _ t2d, ?_, ?_⟩
    · cases e <;> simp [step]
    refine ⟨by show 2 ≤ sizeLine; decide, fun t ht => k _ _ (((e1.trans e2).trans e3).trans (same_new ht)) (two_new ht r3d (.bl _))⟩
theorem sc_empty_pair : FnScope ["chains"] ["chains"] (defScope s_empty_pair) := ⟨rfl, rfl, rfl, by decide +kernel, rfl, by decide +kernel, by decide +kernel⟩
def sp_empty_pair (K : PySem.W.Frag) : Sp := fun vs H Q _ => ∃ u c1 c2, vs = [u] ∧ ChainsAt K H u c1 c2 ∧ 1 ≤ c1.length ∧ c1.length ≤ 20 ∧ 1 ≤ c2.length ∧ c2.length ≤ 20 ∧ ∀ p H', Same H H' → H p = none → Dp K H' (.ref p) (dP (p0 c1 c2)) → Q (.ref p) H'
theorem ok_empty_pair (T : TT K mg) : Cal P w K mg base 2 "empty_pair" (sp_empty_pair K) [] := by
  refine cal_of (f_empty_pair T) (g_empty_pair T) sc_empty_pair (fun _ _ _ _ _ _ us hl => match us, hl with | [_], _ => rfl) (fun vs H Q E h => ?_) (fun cdv A outer s H vs Q E hr h => ?_)
  · obtain ⟨u, c1, c2, rfl, ⟨cp, ca, cb, rfl, hcp, ⟨xs, g1, g2, g3⟩, ⟨ys, g4, g5, g6⟩⟩, m1, m2, n1, n2, k⟩ := h; rfl
  · obtain ⟨u, c1, c2, rfl, ⟨cp, ca, cb, rfl, hcp, ⟨xs, g1, g2, g3⟩, ⟨ys, g4, g5, g6⟩⟩, m1, m2, n1, n2, k⟩ := h
    refine ⟨_, (pss_one (ps_ret (pe_tup (pa_cons (pe_c (ok_empty_state T) hr (by decide) (by rfl) (pa_cons (pe_callB call_len_seq (by rfl) (b_len T) PySem.boot_len (pa_cons (pe_ix ix_tup (pv 0) pe_int (fun _ _ => rfl)) pa_nil)) pa_nil)) (pa_cons (pe_c (ok_empty_state T) hr (by decide) (by rfl) (pa_cons (pe_callB call_len_seq (by rfl) (b_len T) PySem.boot_len (pa_cons (pe_ix ix_tup (pv 0) pe_int (fun _ _ => rfl)) pa_nil)) pa_nil)) pa_nil))))), ?_⟩
    refine ⟨_, rfl, _, _, _, _, rfl, rfl, hcp, rfl, ca, xs, rfl, .inl g1, ?_⟩
    refine ⟨c1.length, by rw [g2]; rfl, m1, by omega, fun r1 H1 e1 d1 => ?_⟩
    refine ⟨_, rfl, _, _, _, _, rfl, rfl, Evl.ex_t e1 hcp, rfl, cb, ys, rfl, .inl (Evl.ex_l e1 g4), ?_⟩
    refine ⟨c2.length, by rw [g5]; rfl, n1, by omega, fun r2 H2 e2 d2 => ?_⟩
    refine ⟨by show 2 ≤ sizeLine; decide, fun t ht => k _ _ ((e1.trans e2).trans (same_new ht)) ((e1.trans e2).free ht) (two_new ht (Dp.mono e2 _ _ d1) d2)⟩
theorem sc_common_events : FnScope ["hop_count", "hop"] ["hop_count"] (defScope s_common_events) := ⟨rfl, rfl, rfl, by decide +kernel, rfl, by decide +kernel, by decide +kernel⟩
def sp_common_events (K : PySem.W.Frag) : Sp := fun vs H Q _ => ∃ n : Nat, vs = [.int n] ∧ n ≤ 20 ∧ ∀ L es H', Same H H' → H L = none → H' L = some (.lst es) → DpAll K H' es ((evs n).map dEv) → Q (.ref L) H'
theorem ok_common_events (T : TT K mg) : Cal P w K mg base 1 "common_events" (sp_common_events K) [] := by
  refine cal_of (f_common_events T) (g_common_events T) sc_common_events (fun _ _ _ _ _ _ us hl => match us, hl with | [_], _ => rfl) (fun vs H Q E h => ?_) (fun cdv A outer s H vs Q E hr h => ?_)
  · obtain ⟨n, rfl, h1, k⟩ := h; rfl
  · obtain ⟨n, rfl, h1, k⟩ := h
    refine ⟨_, (pss_one (ps_ret (pe_op op_cat (pe_lst (pa_cons (pe_tup (pa_cons pe_str (pa_cons pe_int pa_nil))) (pa_cons (pe_tup (pa_cons pe_str pa_nil)) pa_nil))) (pe_lc (own := [("hop", 1)]) (g := (gName 1)) (tt := tYes) rfl sc_common_events.nd (pi_range2 (by rfl) (b_range T) (pa_cons pe_int (pa_cons (pe_op op_add (pv 0) pe_int) pa_nil))) (blkOk_by (own := [("hop", 1)]) (N := ["hop_count", "hop"]) (sc := defScope s_common_events) (by decide +kernel)) (fun _ _ _ _ _ => (pg_name (i := 1) sc_common_events.nd rfl (.inl rfl))) (fun _ _ _ _ _ => pts_nil) (fun _ _ _ _ _ => (pe_tup (pa_cons pe_str (pa_cons (pv 1) (pa_cons pe_non pa_nil))))))))), ?_⟩
    refine ⟨by show 2 ≤ sizeLine; decide, fun p1 hp1 => ⟨by show 1 ≤ sizeLine; decide, fun p2 hp2 => ⟨by show 2 ≤ sizeLine; decide, fun l hl => ?_⟩⟩⟩
    have e1 : Same H (upd (upd (upd H p1 (.tup [.str "wait", .int 1])) p2 (.tup [.str "change"])) l (.lst [.ref p1, .ref p2])) := ((same_new hp1).trans (same_new hp2)).trans (same_new hl)
    have da : DpAll K (upd (upd (upd H p1 (.tup [.str "wait", .int 1])) p2 (.tup [.str "change"])) l (.lst [.ref p1, .ref p2])) [.ref p1, .ref p2] [dEv .wait, dEv .change] := by
      refine .cons (Dp.mono ((same_new hp2).trans (same_new hl)) _ _ (Dp.newT hp1 (.cons (.str _) (.cons (.int _) .nil)))) (.cons (Dp.mono (same_new hl) _ _ (Dp.newT hp2 (.cons (.str _) .nil))) .nil)
    have hl1 : (upd (upd (upd H p1 (.tup [.str "wait", .int 1])) p2 (.tup [.str "change"])) l (.lst [.ref p1, .ref p2])) l = some (.lst [.ref p1, .ref p2]) := upd_same
    generalize upd (upd (upd H p1 (.tup [.str "wait", .int 1])) p2 (.tup [.str "change"])) l (.lst [.ref p1, .ref p2]) = H1 at e1 da hl1
    refine ⟨_, rfl, _, _, rfl, rfl, 1, (n : Int) + 1, rfl, ⟨by omega, by omega, by omega, by omega⟩, fun D hD => ?_⟩
    rw [show ((n : Int) + 1 - 1).toNat = n by omega]
    refine lc_mapR walk_range (fun i v H' => Dp K H' v (dEv (.ask (i + 1)))) (fun i v H1 H2 e r => Dp.monoL e _ _ (noL_dEv _) r) (Nat.le_trans (m := 20) h1 (by decide)) hD (fun _ _ => trivial) ?_ ?_
    · rintro i x H2 H3 Z hi e ⟨rfl, rfl⟩ kz
      refine ⟨rfl, _, rfl, by show 3 ≤ sizeLine; decide, fun p np => kz _ _ ?_ (same_new np)⟩
      refine Dp.newT np (.cons (.str _) (.cons ?_ (.cons .non .nil)))
      have : (1 : Int) + (i : Nat) = ((i + 1 : Nat) : Int) := by omega
      show Dp K _ (.int (1 + (i : Nat))) _
      rw [this]; exact .int _
    · intro H2 acc e hDacc hlacc hR
      refine ⟨l, D, _, _, rfl, rfl, e _ _ hl1, hDacc, ?_, fun q hq => k q _ _ ((e1.trans e).trans (same_new hq)) ((e1.trans e).free hq) upd_same ?_⟩
      · rw [hlacc]; exact Nat.le_trans (m := 22) (by show 2 + n ≤ 22; omega) (by decide)
      · rw [show (evs n).map dEv = [dEv .wait, dEv .change] ++ (List.range n).map (fun i => dEv (.ask (i + 1))) by simp [evs, Function.comp_def]]
        refine DpAll.append (Dp.monoAll (e.trans (same_new hq)) _ _ da) (Dp.monoAll (same_new hq) _ _ (dpAll_of (by simp [hlacc]) fun i v hi => ?_))
        have hi' : i < n := by rw [← hlacc]; exact (List.getElem?_eq_some_iff.mp hi).1
        exact ⟨_, by simp [hi'], hR i v hi⟩
end
end K98
set_option Elab.async false
set_option linter.all false
set_option maxRecDepth 100000
set_option maxHeartbeats 4000000
namespace K98
open PySem PySem.Spec PyProof.Rows L2 Ru He6
open C8 (Cal pe_c)
/-! ### pairs as keys -/
def kE : Ent → NestedKey
  | none => .none
  | some (b, a, s) => .tup [.num b, .num a, .num s]
def kS (st : Row) : NestedKey := .tup (st.map kE)
def kP (s : Row × Row) : NestedKey := .tup [kS s.1, kS s.2]
theorem kE_data (e : Ent) : (kE e).data = dE e := by
  cases e with
  | none => simp [kE, NestedKey.data, dE]
  | some z => simp [kE, NestedKey.data, NestedKey.datas, dE]
theorem kS_data (st : Row) : (kS st).data = dS st := by
  have : ∀ st : Row, NestedKey.datas (st.map kE) = st.map dE := fun st => by
    induction st with
    | nil => simp [NestedKey.datas]
    | cons e st ih => simp [NestedKey.datas, kE_data, ih]
  simp [kS, NestedKey.data, this, dS]
theorem kP_data (s : Row × Row) : (kP s).data = dP s := by simp [kP, NestedKey.data, NestedKey.datas, kS_data, dP]
theorem kE_depth (e : Ent) : (kE e).depth ≤ 2 := by
  cases e with
  | none => simp [kE, NestedKey.depth]
  | some z => simp [kE, NestedKey.depth, NestedKey.depthAll]
theorem kS_depth (st : Row) : (kS st).depth ≤ 3 := by
  have : ∀ st : Row, NestedKey.depthAll (st.map kE) ≤ 2 := fun st => by
    induction st with
    | nil => simp [NestedKey.depthAll]
    | cons e st ih => simp only [List.map_cons, NestedKey.depthAll]; have := kE_depth e; omega
  have := this st
  simp only [kS, NestedKey.depth]; omega
theorem kP_depth (s : Row × Row) : (kP s).depth ≤ 8 := by
  have h1 := kS_depth s.1
  have h2 := kS_depth s.2
  simp only [kP, NestedKey.depth, NestedKey.depthAll]; omega
theorem kE_inj : ∀ {a b : Ent}, kE a = kE b → a = b
  | none, none, _ => rfl
  | none, some _, h => by cases h
  | some _, none, h => by cases h
  | some (a, b, c), some (d, e, f), h => by injection h with h; injection h with h1 h; injection h with h2 h; injection h with h3 _; injection h1 with h1; injection h2 with h2; injection h3 with h3; rw [h1, h2, h3]
theorem kS_inj {a b : Row} (h : kS a = kS b) : a = b := by
  injection h with h
  exact (List.map_inj_right fun x y => kE_inj).mp h
theorem kP_inj {a b : Row × Row} (h : kP a = kP b) : a = b := by
  injection h with h
  injection h with h1 h
  injection h with h2 _
  exact Prod.ext (kS_inj h1) (kS_inj h2)
theorem key_at {K : PySem.W.Frag} {H : Hp} {v : V} {s : Row × Row} (h : Dp K H v (dP s)) : ∃ a, v = .ref a ∧ KeyAt K H a (kP s) := by
  obtain ⟨p, xs, rfl, h1, h2⟩ := Dp.tupI h
  exact ⟨p, rfl, by rw [kP_data]; exact h, kP_depth s⟩
theorem lookN_put {xs : List NEnt} {k j : NestedKey} {a : Addr} {v : V} (h : lookN xs k = none) : lookN (putN xs k a v) j = if j = k then some v else lookN xs j := by
  unfold putN
  rw [h, if_neg (by simp)]
  unfold lookN
  rw [List.find?_append]
  by_cases c : j = k
  · subst c
    rw [if_pos rfl]
    have : xs.find? (fun x => decide (x.1 = j)) = none := by
      unfold lookN at h
      exact Option.map_eq_none_iff.mp h
    simp [this]
  · rw [if_neg c]
    have : decide (k = j) = false := decide_eq_false fun z => c z.symm
    cases e : xs.find? (fun x => decide (x.1 = j)) <;> simp [this]
theorem putN_new {xs : List NEnt} {k : NestedKey} {a : Addr} {v : V} (h : lookN xs k = none) : putN xs k a v = xs ++ [(k, a, v)] := by
  unfold putN
  rw [h, if_neg (by simp)]
/-! ### arrivals -/
abbrev Reach := List ((Row × Row) × List Nat)
def wordEv (E : List Ev) (w : List Nat) : List Ev := w.filterMap fun i => E[i]?
def ArrV (K : PySem.W.Frag) (H : Hp) (R : Reach) (E : List Ev) (v : V) : List Nat → Prop
  | [] => v = .non
  | e :: u => ∃ t a b s ev, v = .ref t ∧ SqT K H t [.ref a, b] ∧ Dp K H (.ref a) (dP s) ∧ (s, u) ∈ R ∧ E[e]? = some ev ∧ Dp K H b (dEv ev)
structure ArrOk (K : PySem.W.Frag) (H : Hp) (xs : List NEnt) (R : Reach) (E : List Ev) : Prop where
  look : ∀ x ∈ R, ∃ v, lookN xs (kP x.1) = some v ∧ ArrV K H R E v x.2
  only : ∀ s, (lookN xs (kP s)).isSome = true → s ∈ R.map (·.1)
  len : xs.length = R.length
  keys : ∀ x ∈ xs, ∃ s, x.1 = kP s ∧ Dp K H (.ref x.2.1) (dP s)
theorem ArrOk.keysAt {K : PySem.W.Frag} {H : Hp} {xs : List NEnt} {R : Reach} {E : List Ev} (h : ArrOk K H xs R E) : keysAt K H xs := fun x hx => by
  obtain ⟨s, h1, h2⟩ := h.keys x hx
  exact ⟨by rw [h1, kP_data]; exact h2, by rw [h1]; exact kP_depth s⟩
theorem ArrV.mono {K : PySem.W.Frag} {H H' : Hp} {R R' : Reach} {E : List Ev} {v : V} {w : List Nat} (e : SameL H H') (hR : ∀ x ∈ R, x ∈ R') : ArrV K H R E v w → ArrV K H' R' E v w := fun h => by
  cases w with
  | nil => exact h
  | cons i u =>
    obtain ⟨t, a, b, s, ev, h1, h2, h3, h4, h5, h6⟩ := h
    exact ⟨t, a, b, s, ev, h1, sqT_L e h2, Dp.monoL e _ _ (noL_dP _) h3, hR _ h4, h5, Dp.monoL e _ _ (noL_dEv _) h6⟩
theorem ArrOk.mono {K : PySem.W.Frag} {H H' : Hp} {xs : List NEnt} {R : Reach} {E : List Ev} (e : SameL H H') (h : ArrOk K H xs R E) : ArrOk K H' xs R E :=
  ⟨fun x hx => let ⟨v, h1, h2⟩ := h.look x hx; ⟨v, h1, h2.mono e fun _ z => z⟩, h.only, h.len, fun x hx => let ⟨s, h1, h2⟩ := h.keys x hx; ⟨s, h1, Dp.monoL e _ _ (noL_dP s) h2⟩⟩
section
variable {P : Program} {w : World} {K : PySem.W.Frag} {mg : Str → Option Value} {base : Heap}
theorem sc_story_to : FnScope ["arrivals", "pair", "story", "arrival", "earlier", "event"] ["arrivals", "pair"] (defScope s_story_to) := ⟨rfl, rfl, rfl, by decide +kernel, rfl, by decide +kernel, by decide +kernel⟩
def sp_story_to (P : Program) (w : World) (K : PySem.W.Frag) : Sp := fun vs H Q _ => ∃ d v xs R E s w0, vs = [.ref d, v] ∧ H d = some (NDict P w d xs) ∧ ArrOk K H xs R E ∧ Dp K H v (dP s) ∧ (s, w0) ∈ R ∧ w0.length ≤ 16000000 ∧ ∀ L es H', Same H H' → H L = none → H' L = some (.lst es) → DpAll K H' es ((wordEv E w0.reverse).map dEv) → Q (.ref L) H'
theorem ok_story_to (T : TT K mg) : Cal P w K mg base 1 "story_to" (sp_story_to P w K) [] := by
  refine cal_of (f_story_to T) (g_story_to T) sc_story_to (fun _ _ _ _ _ _ us hl => match us, hl with | [_, _], _ => rfl) (fun vs H Q E h => ?_) (fun cdv A outer s H vs Q E hr h => ?_)
  · obtain ⟨d, v, xs, R, E, s, w0, rfl, hd, ha, hv, hR, hw, k⟩ := h; rfl
  · obtain ⟨d, v, xs, R, E, s, w0, rfl, hd, ha, hv, hR, hw, k⟩ := h
    refine ⟨_, (pss_cons (ps_set (i := 2) sc_story_to.nd rfl (.inl rfl) (pe_lst pa_nil))
      (pss_cons (ps_set (i := 3) sc_story_to.nd rfl (.inl rfl) (pe_ix (ix_nget hr.units) (pv 0) (pv 1) (fun _ _ => rfl)))
      (pss_cons (ps_while PassesOwn.never (pt_cmp (pc_notN (pv 3)))
      (pss_cons (ps_asg (pv 3) (pg_tup (n := 2) rfl (pgs_cons (pg_name (i := 4) sc_story_to.nd rfl (.inl rfl)) (pgs_cons (pg_name (i := 5) sc_story_to.nd rfl (.inl rfl)) pgs_nil))))
      (pss_cons (ps_expr (pe_bm PySem.F.plainAttrs_list PySem.F.slot_list_append PySem.F.type_list_append mt_append (pv 2) (pa_cons (pv 5) pa_nil)))
      (pss_one (ps_set (i := 3) sc_story_to.nd rfl (.inl rfl) (pe_ix (ix_nget hr.units) (pv 0) (pv 4) (fun _ _ => rfl)))))))
      (pss_one (ps_ret (pe_revL (pv 2))))))), ?_⟩
    refine ⟨by show 0 ≤ sizeLine; decide, fun L hL => ?_⟩
    obtain ⟨a0, rfl, ka0⟩ := key_at hv
    obtain ⟨v0, lk0, av0⟩ := ha.look _ hR
    have e0 : Same H (upd H L (.lst [])) := same_new hL
    refine ⟨_, rfl, _, rfl, a0, d, xs, _, v0, rfl, rfl, e0 _ _ hd, ha.keysAt.mono e0, ka0.mono e0, lk0, ?_⟩
    refine seqM (t := tWhile _ _) (fun σ H' => ∃ es v3 x4 x5, σ = [some (.ref d), some (.ref a0), some (.ref L), some v3, x4, x5] ∧ Same H H' ∧ H' L = some (.lst es) ∧ DpAll K H' es ((wordEv E w0).map dEv)) (fun Nx hNx => ?_) ?_
    · refine while_c (fun σ H' => ∃ es v3 x4 x5 u dn, σ = [some (.ref d), some (.ref a0), some (.ref L), some v3, x4, x5] ∧ Same H H' ∧ H' L = some (.lst es) ∧ w0 = dn ++ u ∧ es.length = dn.length ∧ DpAll K H' es ((wordEv E dn).map dEv) ∧ ArrV K H' R E v3 u)
        (fun _ H' => match H' L with | some (.lst es) => w0.length - es.length | _ => 0) ?_ ?_
      · exact ⟨[], v0, none, none, w0, [], rfl, e0, upd_same, rfl, rfl, .nil, av0.mono (.of e0) (fun _ h => h)⟩
      · rintro σ H' ⟨es, v3, x4, x5, u, dn, rfl, e, hes, hw0, hlen, hdp, hav⟩
        cases u with
        | nil =>
          have : v3 = .non := hav
          subst this
          refine ⟨false, fun Z hZ => ⟨_, rfl, _, rfl, hZ⟩, (fun z => by cases z), fun _ => hNx _ _ ⟨es, _, _, _, rfl, e, hes, ?_⟩⟩
          rw [hw0, List.append_nil]; exact hdp
        | cons i u =>
          obtain ⟨t, a, b, s1, ev, rfl, h2, h3, h4, h5, h6⟩ := hav
          refine ⟨true, fun Z hZ => ⟨_, rfl, _, rfl, hZ⟩, fun _ => ?_, fun z => by cases z⟩
          refine ⟨_, rfl, t, _, rfl, h2, rfl, _, _, rfl, _, _, rfl, rfl, ?_⟩
          have hln : es.length < w0.length := by rw [hw0, hlen, List.length_append, List.length_cons]; omega
          refine ⟨_, rfl, .inl ⟨rfl, _, .of hes⟩, _, rfl, L, es, _, rfl, rfl, hes, Nat.lt_of_lt_of_le (Nat.lt_of_lt_of_le hln hw) (by decide), ?_⟩
          have e1 : Same H (upd H' L (.lst (es ++ [b]))) := same_mut e hL
          have sl : SameL H' (upd H' L (.lst (es ++ [b]))) := (SameL.refl _).mut hes
          obtain ⟨a1, q1, ka1⟩ := key_at (Dp.monoL sl _ _ (noL_dP _) h3)
          cases q1
          obtain ⟨v1, lk1, av1⟩ := ha.look _ h4
          refine ⟨_, rfl, _, rfl, a, d, xs, _, v1, rfl, rfl, e1 _ _ hd, ha.keysAt.mono e1, ka1, lk1, ?_⟩
          refine ⟨⟨es ++ [b], v1, _, _, u, dn ++ [i], rfl, e1, upd_same, by rw [hw0, List.append_assoc]; rfl, by rw [List.length_append, List.length_append, hlen]; rfl, ?_, av1.mono (.of e1) (fun _ h => h)⟩, ?_⟩
          · rw [show wordEv E (dn ++ [i]) = wordEv E dn ++ [ev] by simp [wordEv, List.filterMap_append, h5], List.map_append]
            refine DpAll.append (Dp.monoLs sl _ _ (noLs_all fun x hx => ?_) hdp) (.cons (Dp.monoL sl _ _ (noL_dEv _) h6) .nil)
            obtain ⟨y, _, rfl⟩ := List.mem_map.mp hx
            exact noL_dEv y
          · simp only [upd_same, hes, List.length_append, List.length_cons, List.length_nil]
            omega
    rintro σ H' ⟨es, v3, x4, x5, rfl, e, hes, hdp⟩
    refine ⟨_, rfl, L, es, rfl, .of hes, fun p hp => k p _ _ (e.trans (same_new hp)) (e.free hp) upd_same ?_⟩
    have hl := DpAll.len hdp
    rw [show wordEv E w0.reverse = (wordEv E w0).reverse by simp [wordEv, List.filterMap_reverse], List.map_reverse]
    refine dpAll_of (by simp [hl]) fun i v hi => ?_
    have h1 := (List.getElem?_eq_some_iff.mp hi).1
    rw [List.length_reverse] at h1
    rw [List.getElem?_reverse h1] at hi
    obtain ⟨dd, h3, h4⟩ := DpAll.get' hdp hi
    refine ⟨dd, ?_, Dp.mono (same_new hp) _ _ h4⟩
    rw [List.getElem?_reverse (by rw [← hl]; exact h1), ← hl]
    exact h3
end
end K98
set_option Elab.async false
set_option linter.all false
set_option maxRecDepth 100000
set_option maxHeartbeats 4000000
namespace K98
open PySem PySem.Spec PyProof.Rows L2 Ru He6 TL
/-! ### kinds -/
structure KindD where
  lasts : Nat
  shared : Option Nat
  late : Nat
  onErr : Nat
  strict : Bool
  mark : Str
  dated : Bool
  margin : Nat
def elementsOf (t : Str) : List Str := ((Txt.split t ",").map fun x => Txt.stripChars x " ").filter fun x => decide (x ≠ "")
inductive Wd where
  | num (i : Nat) (n : Nat)
  | strict
  deriving DecidableEq
def nmS : Nat → Str
  | 0 => "lasts"
  | 1 => "shared-lasts"
  | 2 => "late"
  | _ => "on-error"
def wtx : Wd → Str
  | .num i n => (nmS i ++ "=") ++ toString (n : Int)
  | .strict => "strict"
def wordsOf (lasts : Nat) (shared : Option Nat) (late onErr : Nat) (strict : Bool) : List Wd :=
  [.num 0 lasts] ++ (match shared with | some n => [.num 1 n] | none => []) ++ (if 0 < late then [.num 2 late] else []) ++ (if 0 < onErr then [.num 3 onErr] else []) ++ (if strict = true then [.strict] else [])
def keepText (ws : List Wd) : Str := Txt.join ", " (ws.map wtx)
theorem strip_w : ∀ i : Fin 4, ∀ n : Fin 4, Txt.stripChars (wtx (.num i.val n.val)) " " = wtx (.num i.val n.val) ∧ Txt.stripChars (" " ++ wtx (.num i.val n.val)) " " = wtx (.num i.val n.val) ∧ decide (wtx (.num i.val n.val) ≠ "") = true ∧
    (tl (wtx (.num i.val n.val))).contains 44 = false := by decide +kernel
theorem strip_s : Txt.stripChars (wtx .strict) " " = wtx .strict ∧ Txt.stripChars (" " ++ wtx .strict) " " = wtx .strict ∧ decide (wtx .strict ≠ "") = true ∧ (tl (wtx .strict)).contains 44 = false := by decide +kernel
def okW : Wd → Prop
  | .num i n => i < 4 ∧ n < 4
  | .strict => True
theorem strip_ok (x : Wd) (h : okW x) : Txt.stripChars (wtx x) " " = wtx x ∧ Txt.stripChars (" " ++ wtx x) " " = wtx x ∧ decide (wtx x ≠ "") = true ∧ (tl (wtx x)).contains 44 = false := by
  cases x with
  | num i n => exact strip_w ⟨i, h.1⟩ ⟨n, h.2⟩
  | strict => exact strip_s
theorem join_sp (x : Str) : ∀ xs : List Str, Str.join ", " (x :: xs) = Str.join "," (x :: xs.map fun y => " " ++ y)
  | [] => rfl
  | y :: ys => by
    show x ++ ", " ++ Str.join ", " (y :: ys) = x ++ "," ++ Str.join "," ((" " ++ y) :: ys.map _)
    rw [join_sp y ys]
    have : ∀ zs : List Str, Str.join "," ((" " ++ y) :: zs) = " " ++ Str.join "," (y :: zs) := fun zs => by
      cases zs with
      | nil => rfl
      | cons z zs => show " " ++ y ++ "," ++ _ = " " ++ (y ++ "," ++ _); simp only [Str.append_assoc]
    rw [this]
    have e : (", " : Str) = "," ++ " " := by decide +kernel
    rw [e]
    simp only [Str.append_assoc]
theorem split_keep (x : Wd) (xs : List Wd) (h : ∀ y ∈ x :: xs, okW y) : Txt.split (keepText (x :: xs)) "," = wtx x :: xs.map fun y => " " ++ wtx y := by
  unfold keepText
  rw [join_eq, List.map_cons, join_sp, ← join_eq]
  rw [split_join (s := 44) (S := []) (by decide +kernel) (by decide +kernel) (by simp)]
  · rw [List.map_map]; rfl
  · intro p hp
    have c : ∀ z : Str, (tl z).contains 44 = false → 44 ∉ tl z := fun z hz hm => by
      rw [List.contains_iff_mem.mpr hm] at hz; cases hz
    rcases List.mem_cons.mp hp with e | hp
    · subst e; exact c _ (strip_ok x (h x (List.mem_cons_self ..))).2.2.2
    · obtain ⟨y, hy, rfl⟩ := List.mem_map.mp hp
      obtain ⟨z, hz, rfl⟩ := List.mem_map.mp hy
      have := c _ (strip_ok z (h z (List.mem_cons_of_mem _ hz))).2.2.2
      rw [tl_append]
      intro hm
      rcases List.mem_append.mp hm with hm | hm
      · exact absurd hm (by decide +kernel)
      · exact this hm
theorem elements_keep (x : Wd) (xs : List Wd) (h : ∀ y ∈ x :: xs, okW y) : elementsOf (keepText (x :: xs)) = (x :: xs).map wtx := by
  unfold elementsOf keepText
  rw [join_eq, List.map_cons, join_sp, ← join_eq]
  rw [split_join (s := 44) (S := []) (by decide +kernel) (by decide +kernel) (by simp)]
  · rw [List.map_cons, List.filter_cons, (strip_ok x (h x (List.mem_cons_self ..))).1, if_pos (strip_ok x (h x (List.mem_cons_self ..))).2.2.1]
    congr 1
    rw [List.map_map, List.map_map]
    have hx : ∀ ys : List Wd, (∀ y ∈ ys, okW y) → (ys.map ((fun x => Txt.stripChars x " ") ∘ ((fun y => " " ++ y) ∘ wtx))).filter (fun (x : Str) => decide (x ≠ "")) = ys.map wtx := fun ys hy => by
      induction ys with
      | nil => rfl
      | cons y ys ih =>
        have q := strip_ok y (hy y (List.mem_cons_self ..))
        rw [List.map_cons, List.filter_cons]
        show (if decide (Txt.stripChars (" " ++ wtx y) " " ≠ "") = true then _ else _) = _
        rw [q.2.1, if_pos q.2.2.1, ih fun z hz => hy z (List.mem_cons_of_mem _ hz)]
        show Txt.stripChars (" " ++ wtx y) " " :: _ = _
        rw [q.2.1]; rfl
    exact hx xs fun y hy => h y (List.mem_cons_of_mem _ hy)
  · intro p hp
    have c : ∀ z : Str, (tl z).contains 44 = false → 44 ∉ tl z := fun z hz hm => by
      rw [List.contains_iff_mem.mpr hm] at hz; cases hz
    rcases List.mem_cons.mp hp with e | hp
    · subst e; exact c _ (strip_ok x (h x (List.mem_cons_self ..))).2.2.2
    · obtain ⟨y, hy, rfl⟩ := List.mem_map.mp hp
      obtain ⟨z, hz, rfl⟩ := List.mem_map.mp hy
      have := c _ (strip_ok z (h z (List.mem_cons_of_mem _ hz))).2.2.2
      rw [tl_append]
      intro hm
      rcases List.mem_append.mp hm with hm | hm
      · exact absurd hm (by decide +kernel)
      · exact this hm
end K98
set_option Elab.async false
set_option linter.all false
set_option maxRecDepth 100000
set_option maxHeartbeats 4000000
namespace K98
open PySem PySem.Spec PyProof.Rows L2 Ru He6 TL
open C8 (Cal pe_c)
theorem acc_eq {α : Type} {xs : List α} {acc : List V} {g : α → V} (hl : acc.length = xs.length) (h : ∀ (i : Nat) (v : V), acc[i]? = some v → ∃ x, xs[i]? = some x ∧ v = g x) : acc = xs.map g := by
  refine List.ext_getElem? fun i => ?_
  rw [List.getElem?_map]
  cases e : acc[i]? with
  | none =>
    have : xs.length ≤ i := by rw [← hl]; exact List.getElem?_eq_none_iff.mp e
    rw [List.getElem?_eq_none this]; rfl
  | some v =>
    obtain ⟨x, h1, h2⟩ := h i v e
    rw [h1, h2]; rfl
def txN (n : Nat) : Str := toString (n : Int)
theorem txN_all : ∀ n : Fin 4, (txN n.val).length = 1 ∧ (tl (txN n.val)).all (fun c => decide (c ∈ tl ("0123456789" : Str))) = true ∧ PySem.intText? (txN n.val) = some (n.val : Int) ∧
    (txN n.val).cps = #[48 + n.val] := by decide +kernel
section
variable {P : Program} {w : World} {K : PySem.W.Frag} {mg : Str → Option Value} {base : Heap}
theorem sc_consists_of : FnScope ["text", "signs", "sign"] ["text", "signs"] (defScope s_consists_of) := ⟨rfl, rfl, rfl, by decide +kernel, rfl, by decide +kernel, by decide +kernel⟩
def sp_consists_of (K : PySem.W.Frag) : Sp := fun vs H Q _ => ∃ x y : Str, vs = [.str x, .str y] ∧ x.length ≤ 1000 ∧ ∀ H', Same H H' → Q (.bl ((tl x).all fun c => decide (c ∈ tl y))) H'
theorem ok_consists_of (T : TT K mg) : Cal P w K mg base 1 "consists_of" (sp_consists_of K) [] := by
  refine cal_of (f_consists_of T) (g_consists_of T) sc_consists_of (fun _ _ _ _ _ _ us hl => match us, hl with | [_, _], _ => rfl) (fun vs H Q E h => ?_) (fun cdv A outer s H vs Q E hr h => ?_)
  · obtain ⟨x, y, rfl, hx, k⟩ := h; rfl
  · obtain ⟨x, y, rfl, hx, k⟩ := h
    refine ⟨_, (pss_one (ps_ret (pe_callB (cr_all rfl) (by rfl) (b_all T) (by decide +kernel) (pa_cons (pe_lc (own := [("sign", 2)]) (g := (gName 2)) (tt := tYes) rfl sc_consists_of.nd (pi_str (pv 0)) (blkOk_by (own := [("sign", 2)]) (N := ["text", "signs", "sign"]) (sc := defScope s_consists_of) (by decide +kernel)) (fun _ _ _ _ _ => (pg_name (i := 2) sc_consists_of.nd rfl (.inl rfl))) (fun _ _ _ _ _ => pts_nil) (fun _ _ _ _ _ => (pe_cmpR op_in_sign (pv 2) (pv 1) rfl))) pa_nil)))), ?_⟩
    refine ⟨_, rfl, x, rfl, fun D hD => ?_⟩
    refine lc_mapR walk_str (fun i v _ => ∃ c, (tl x)[i]? = some c ∧ v = .bl (decide (c ∈ tl y))) (fun i v _ _ _ r => r) (Nat.le_trans hx (by decide)) hD (fun _ _ => trivial) ?_ ?_
    · rintro i v H1 H2 Z hi e ⟨rfl, c, hc, rfl⟩ kz
      refine ⟨rfl, _, rfl, _, rfl, c, y, rfl, rfl, kz _ _ ⟨c, by rw [Array.getElem?_toList]; exact hc, rfl⟩ (Same.refl _)⟩
    · intro H1 acc e hDacc hlacc hR
      have := acc_eq (xs := tl x) (g := fun c => V.bl (decide (c ∈ tl y))) (by rw [hlacc]; simp) hR
      subst this
      refine ⟨D, (tl x).map fun c => decide (c ∈ tl y), rfl, .of (by rw [hDacc]; simp [List.map_map, Function.comp_def]), ?_⟩
      have z := k _ e
      rw [show ((tl x).map fun c => decide (c ∈ tl y)).all id = (tl x).all fun c => decide (c ∈ tl y) by simp [List.all_map, Function.comp_def]]
      exact z
theorem sc_read_number : FnScope ["text"] ["text"] (defScope s_read_number) := ⟨rfl, rfl, rfl, by decide +kernel, rfl, by decide +kernel, by decide +kernel⟩
def sp_read_number (K : PySem.W.Frag) : Sp := fun vs H Q _ => ∃ n, vs = [.str (txN n)] ∧ n < 4 ∧ ∀ H', Same H H' → Q (.int n) H'
theorem ok_read_number (T : TT K mg) : Cal P w K mg base 2 "read_number" (sp_read_number K) [] := by
  refine cal_of (f_read_number T) (g_read_number T) sc_read_number (fun _ _ _ _ _ _ us hl => match us, hl with | [_], _ => rfl) (fun vs H Q E h => ?_) (fun cdv A outer s H vs Q E hr h => ?_)
  · obtain ⟨n, rfl, hn, k⟩ := h; rfl
  · obtain ⟨n, rfl, hn, k⟩ := h
    refine ⟨_, (pss_cons (ps_if (PW.pt (pw_or (pt_not (pt_chain op_le op_le pe_int (pe_callB call_len_str (by rfl) (b_len T) PySem.boot_len (pa_cons (pv 0) pa_nil)) (pe_glob (v := .int 6) (by rfl) (i_MOST_DIGITS T).choose_spec ⟨_, rfl⟩))) (pw_or1 (pt_not (pt_val (pe_c (ok_consists_of T) hr (by decide) (by rfl) (pa_cons (pv 0) (pa_cons (pe_glob (v := .str "0123456789") (by rfl) (t_DIGITS T).choose_spec ⟨_, rfl⟩) pa_nil))))))))
      (pss_one (ps_ret pe_non))
      pss_nil)
      (pss_cons (ps_if (PW.pt (pw_and (pt_cmpR op_eq (pe_ix ix_str (pv 0) pe_int (fun _ _ => rfl)) pe_str (nomark _)) (pw_and1 (pt_cmpR op_ne (pv 0) pe_str (nomark _)))))
      (pss_one (ps_ret pe_non))
      pss_nil)
      (pss_one (ps_ret (pe_callTy call_int_str (by rfl) (b_int T) (by decide +kernel) (pa_cons (pv 0) pa_nil)))))), ?_⟩
    obtain ⟨h1, h2, h3, h4⟩ := txN_all ⟨n, hn⟩
    dsimp only at h1 h2 h3 h4
    refine ⟨_, rfl, _, rfl, by rw [h1]; decide, ?_⟩
    rw [h1]
    refine ⟨_, _, rfl, rfl, _, rfl, iteT ⟨_, _, rfl, rfl, _, rfl, iteF ?_⟩⟩
    refine ⟨_, rfl, _, _, rfl, by rw [h1]; decide, fun H1 e1 => ?_⟩
    rw [h2]
    refine ⟨_, rfl, iteF ?_⟩
    have hlen : (txN n).length ≤ sizeLine := by rw [h1]; decide
    refine ⟨_, rfl, _, _, _, rfl, rfl, hlen, atI_eq (j := 0) (v := 48 + n) rfl (by rw [h4]; rfl), rfl, ?_⟩
    refine ⟨_, rfl, ?_⟩
    by_cases c : n = 0
    · subst c
      refine iteTd (by decide +kernel) ⟨_, rfl, rfl, _, rfl, ?_⟩
      rw [show (!decide (V.str (txN 0) = V.str "0")) = false by decide +kernel]
      exact iteF ⟨_, rfl, _, _, rfl, h3, by rw [h1]; decide, k _ e1⟩
    · refine iteFd (fun z => ?_) ⟨_, rfl, _, _, rfl, h3, by rw [h1]; decide, k _ e1⟩
      have z1 := congrArg (fun v : V => match v with | .str x => tl x | _ => []) z
      have z2 : tl (txN n) = [48 + n] := by rw [tl, h4]
      have z3 : [48 + n] = [48] := z1
      have z4 := List.cons.inj z3
      omega
theorem names_at (T : TT K mg) (H : Hp) : SqT K H (He.ga K "NUMBER_NAMES") [.str "lasts", .str "shared-lasts", .str "late", .str "on-error", .str "age", .str "fresh"] := He.tupB_ok (x_1 T) H
theorem part_n : ∀ i n : Fin 4, Txt.partition (wtx (.num i.val n.val)) "=" = (nmS i.val, (("=" : Str), txN n.val)) ∧ (inV (.str (nmS i.val)) [.str "lasts", .str "shared-lasts", .str "late", .str "on-error", .str "age", .str "fresh"]) = true ∧ decide ((wtx (.num i.val n.val)).length ≤ 100) = true := by decide +kernel
theorem part_s : Txt.partition (wtx .strict) "=" = (("strict" : Str), (Str.empty, Str.empty)) ∧ (inV (.str "strict") [.str "lasts", .str "shared-lasts", .str "late", .str "on-error", .str "age", .str "fresh"]) = false ∧ decide ((wtx .strict).length ≤ 100) = true := by decide +kernel
theorem sc_read_numbered : FnScope ["element", "name", "sign", "text", "number"] ["element"] (defScope s_read_numbered) := ⟨rfl, rfl, rfl, by decide +kernel, rfl, by decide +kernel, by decide +kernel⟩
def sp_read_numbered (K : PySem.W.Frag) : Sp := fun vs H Q _ => ∃ x, vs = [.str (wtx x)] ∧ okW x ∧ (x = .strict → ∀ H', Same H H' → Q .non H') ∧ (∀ i n, x = .num i n → ∀ p H', Same H H' → H' p = some (.tup [.str (nmS i), .int n]) → Q (.ref p) H')
theorem ok_read_numbered (T : TT K mg) : Cal P w K mg base 3 "read_numbered" (sp_read_numbered K) [] := by
  refine cal_of (f_read_numbered T) (g_read_numbered T) sc_read_numbered (fun _ _ _ _ _ _ us hl => match us, hl with | [_], _ => rfl) (fun vs H Q E h => ?_) (fun cdv A outer s H vs Q E hr h => ?_)
  · obtain ⟨x, rfl, hx, k1, k2⟩ := h; rfl
  · obtain ⟨x, rfl, hx, k1, k2⟩ := h
    refine ⟨_, (pss_cons (ps_asg (pe_partition (pv 0) pe_str) (pg_tup (n := 3) rfl (pgs_cons (pg_name (i := 1) sc_read_numbered.nd rfl (.inl rfl)) (pgs_cons (pg_name (i := 2) sc_read_numbered.nd rfl (.inl rfl)) (pgs_cons (pg_name (i := 3) sc_read_numbered.nd rfl (.inl rfl)) pgs_nil)))))
      (pss_cons (ps_if (pt_cmpR op_notIn_seq (pv 1) (pe_glob (v := .ref (He.ga K "NUMBER_NAMES")) (by rfl) (g_NUMBER_NAMES T) rfl) rfl)
      (pss_one (ps_ret pe_non))
      pss_nil)
      (pss_cons (ps_set (i := 4) sc_read_numbered.nd rfl (.inl rfl) (pe_c (ok_read_number T) hr (by decide) (by rfl) (pa_cons (pv 3) pa_nil)))
      (pss_cons (ps_if (pt_cmp (pc_notN (pv 4)))
      (pss_one (ps_ret (pe_tup (pa_cons (pv 1) (pa_cons (pv 4) pa_nil)))))
      pss_nil)
      (pss_cons (ps_if (pt_cmpR op_in_seq (pv 1) (pe_glob (v := .ref (He.ga K "LIFETIME_NAMES")) (by rfl) (g_LIFETIME_NAMES T) rfl) rfl)
      (pss_one (ps_ret (pe_tup (pa_cons (pv 1) (pa_cons pe_int pa_nil)))))
      pss_nil)
      (pss_one (ps_ret pe_non))))))), ?_⟩
    cases x with
    | strict =>
      obtain ⟨p1, p2, p3⟩ := part_s
      have p3 := of_decide_eq_true p3
      refine ⟨_, rfl, ⟨_, rfl⟩, _, _, rfl, rfl, by decide +kernel, Nat.le_trans p3 (by decide), fun p hp => ?_⟩
      rw [p1]
      refine ⟨p, _, rfl, .of upd_same, rfl, _, _, rfl, _, _, rfl, _, _, rfl, rfl, ?_⟩
      refine ⟨_, rfl, _, _, rfl, .inr (names_at T _), rfl, rfl, ?_⟩
      rw [p2]
      exact ⟨_, rfl, iteT (k1 rfl _ (same_new hp))⟩
    | num i n =>
      obtain ⟨p1, p2, p3⟩ := part_n ⟨i, hx.1⟩ ⟨n, hx.2⟩
      have p3 := of_decide_eq_true p3
      dsimp only at p1 p2 p3
      refine ⟨_, rfl, ⟨_, rfl⟩, _, _, rfl, rfl, by decide +kernel, Nat.le_trans p3 (by decide), fun p hp => ?_⟩
      rw [p1]
      refine ⟨p, _, rfl, .of upd_same, rfl, _, _, rfl, _, _, rfl, _, _, rfl, rfl, ?_⟩
      refine ⟨_, rfl, _, _, rfl, .inr (names_at T _), rfl, rfl, ?_⟩
      rw [p2]
      refine ⟨_, rfl, iteF ⟨_, rfl, n, rfl, hx.2, fun H1 e1 => ?_⟩⟩
      refine ⟨_, rfl, _, rfl, iteT ⟨_, rfl, _, rfl, by show 2 ≤ sizeLine; decide, fun q hq => ?_⟩⟩
      exact k2 i n rfl q _ (((same_new hp).trans e1).trans (same_new hq)) upd_same
def dK (ws : List Wd) : List (Key × V) := ws.filterMap fun x => match x with | .num i n => some (Sum.inr (nmS i), .int (n : Nat)) | .strict => none
/-- every name once -/
def onceW (ws : List Wd) : Prop := ∀ (a b i n m : Nat), a < b → ws[a]? = some (.num i n) → ws[b]? = some (.num i m) → False
theorem nmS_inj : ∀ i j : Fin 4, nmS i.val = nmS j.val → i = j := by decide +kernel
theorem sc_least_numbers : FnScope ["words", "numbers", "element", "pair", "name", "number"] ["words"] (defScope s_least_numbers) := ⟨rfl, rfl, rfl, by decide +kernel, rfl, by decide +kernel, by decide +kernel⟩
def sp_least_numbers (K : PySem.W.Frag) : Sp := fun vs H Q _ => ∃ a ws, vs = [.ref a] ∧ SqL K H a (ws.map fun x => V.str (wtx x)) ∧ ws.length ≤ 100 ∧ (∀ x ∈ ws, okW x) ∧ onceW ws ∧ ∀ d H', Same H H' → H d = none → H' d = some (.dK (dK ws)) → Q (.ref d) H'
theorem ok_least_numbers (T : TT K mg) : Cal P w K mg base 4 "least_numbers" (sp_least_numbers K) [] := by
  refine cal_of (f_least_numbers T) (g_least_numbers T) sc_least_numbers (fun _ _ _ _ _ _ us hl => match us, hl with | [_], _ => rfl) (fun vs H Q E h => ?_) (fun cdv A outer s H vs Q E hr h => ?_)
  · obtain ⟨a, ws, rfl, ha, hl, hok, hon, k⟩ := h; rfl
  · obtain ⟨a, ws, rfl, ha, hl, hok, hon, k⟩ := h
    refine ⟨_, (pss_cons (ps_set (i := 1) sc_least_numbers.nd rfl (.inl rfl) pe_dnewK)
      (pss_cons (ps_for PassesOwn.never rfl (pi_list (pv 0)) (pg_name (i := 2) sc_least_numbers.nd rfl (.inl rfl))
      (pss_cons (ps_set (i := 3) sc_least_numbers.nd rfl (.inl rfl) (pe_c (ok_read_numbered T) hr (by decide) (by rfl) (pa_cons (pv 2) pa_nil)))
      (pss_cons (ps_if (pt_cmp (pc_isN (pv 3)))
      (pss_one ps_continue)
      pss_nil)
      (pss_cons (ps_asg (pv 3) (pg_tup (n := 2) rfl (pgs_cons (pg_name (i := 4) sc_least_numbers.nd rfl (.inl rfl)) (pgs_cons (pg_name (i := 5) sc_least_numbers.nd rfl (.inl rfl)) pgs_nil))))
      (pss_one (ps_if (PW.pt (pw_or (pt_cmp (pc_dnotin (hu_of hr) (pv 4) (pv 1))) (pw_or1 (pt_cmpR op_lt (pv 5) (pe_dget (hu_of hr) (pv 1) (pv 4) (fun _ _ => rfl)) (nomark _)))))
      (pss_one (ps_dput (hu_of hr) (pv 1) (pv 4) (pv 5) rfl))
      pss_nil))))))
      (pss_one (ps_ret (pv 1))))), ?_⟩
    refine fun d hd => ?_
    have e0 : Same H (upd H d (.dK [])) := same_new hd
    refine ⟨_, rfl, a, rfl, ⟨_, Evl.ex_l e0 ha⟩, ?_⟩
    refine for_it (walk_list (xs := ws.map fun x => V.str (wtx x))) (fun i σ H' => (∃ x2 x3 x4 x5, σ = [some (.ref a), some (.ref d), x2, x3, x4, x5]) ∧ Same H H' ∧ H' d = some (.dK (dK (ws.take i)))) ?_ ?_ ?_ ?_
    · exact ⟨⟨_, _, _, _, rfl⟩, e0, upd_same⟩
    · rintro i σ H' _ ⟨_, e, _⟩
      exact Evl.ex_l e ha
    · rintro i x σ H1 _ hi ⟨⟨x2, x3, x4, x5, rfl⟩, e, hdk⟩ ⟨rfl, hx⟩
      rw [List.length_map] at hi
      have hx' : x = .str (wtx ws[i]) := by
        rw [List.getElem?_map, List.getElem?_eq_getElem hi] at hx
        exact (Option.some.inj hx).symm
      subst hx'
      have htk : ws.take (i + 1) = ws.take i ++ [ws[i]] := List.take_succ_eq_append_getElem hi
      have hok1 := hok ws[i] (List.getElem_mem hi)
      have hgi : ws[i]? = some ws[i] := List.getElem?_eq_getElem hi
      refine ⟨_, rfl, ws[i], rfl, hok1, fun es H2 e2 => ?_, fun j n ej p H2 e2 hp => ?_⟩
      · refine ⟨_, rfl, _, rfl, iteT ⟨⟨_, _, _, _, rfl⟩, e.trans e2, ?_⟩⟩
        rw [e2 _ _ hdk, htk, es]
        simp [dK]
      · refine ⟨_, rfl, _, rfl, iteF ⟨_, rfl, p, _, rfl, .of hp, rfl, _, _, rfl, _, _, rfl, rfl, ?_⟩⟩
        rw [ej] at hok1
        have hnew : valV (dK (ws.take i)) (Sum.inr (nmS j)) = none := by
          cases hv : valV (dK (ws.take i)) (Sum.inr (nmS j)) with
          | none => rfl
          | some v =>
            exfalso
            unfold valV at hv
            rw [Option.map_eq_some_iff] at hv
            obtain ⟨kv, h1, _⟩ := hv
            have h2 := List.mem_of_find?_eq_some h1
            have h3 := List.find?_some h1
            obtain ⟨y, hy, hy2⟩ := List.mem_filterMap.mp h2
            obtain ⟨q, hq, rfl⟩ := List.mem_iff_getElem.mp hy
            rw [List.length_take] at hq
            rw [List.getElem_take] at hy2
            have hgq : ws[q]? = some (ws[q]'(by omega)) := List.getElem?_eq_getElem _
            cases hw : ws[q]'(by omega) with
            | strict => rw [hw] at hy2; cases hy2
            | num j' m =>
              rw [hw] at hy2 hgq
              cases hy2
              have h4 : nmS j' = nmS j := by simpa using h3
              have o2 := hok (.num j' m) (List.mem_of_getElem? hgq)
              have := nmS_inj ⟨j', o2.1⟩ ⟨j, hok1.1⟩ h4
              have h5 : j' = j := congrArg Fin.val this
              subst h5
              exact hon q i j' m n (by omega) hgq (by rw [hgi, ej])
        refine ⟨_, rfl, _, rfl, d, none, rfl, ?_, _, rfl, iteT ?_⟩
        · have := DGet.k (k := Sum.inr (nmS j)) (e2 _ _ hdk)
          rw [hnew] at this
          exact this
        refine ⟨_, rfl, _, rfl, _, rfl, d, _, rfl, DPut.k (k := Sum.inr (nmS j)) (e2 _ _ hdk) ?_, ⟨_, _, _, _, rfl⟩, same_mut (e.trans e2) hd, ?_⟩
        · exact Nat.lt_of_le_of_lt (Nat.le_trans (List.length_filterMap_le ..) (Nat.le_trans (List.length_take_le' ..) hl)) (by decide)
        · rw [upd_same, htk, putK_new _ hnew, ej]
          simp [dK]
    · rintro σ H1 ⟨⟨x2, x3, x4, x5, rfl⟩, e, hdk⟩
      rw [List.length_map, List.take_length] at hdk
      exact ⟨_, rfl, k d H1 e hd hdk⟩
end
end K98
set_option Elab.async false
set_option linter.all false
set_option maxRecDepth 100000
set_option maxHeartbeats 4000000
namespace Ru
open PySem PySem.Spec PyProof.Rows L2
section
variable {X : Cx}
theorem call_max3 (hc : X.calm = true) : CallR X (.builtin "max") (fun xs H Q => ∃ i j k, xs = [.int i, .int j, .int k] ∧ Q (.int (if j > i then (if k > j then k else j) else (if k > i then k else i))) H) := by
  intro pins s σ H xs us Q I r h
  obtain ⟨i, j, k, rfl, q⟩ := h
  cases r with
  | cons r1 r => cases r with
    | cons r2 r => cases r with
      | cons r3 r =>
        cases r
        obtain ⟨t1, rfl⟩ := r1
        obtain ⟨t2, rfl⟩ := r2
        obtain ⟨t3, rfl⟩ := r3
        refine max_three_ints (I.ok.hd hc) fun h' tk kk => ⟨_, H, I.kept kk, ?_, q⟩
        by_cases h1 : j > i
        · by_cases h2 : k > j
          · rw [if_pos h1, if_pos h2, if_pos h1, if_pos h2]; exact ⟨_, rfl⟩
          · rw [if_pos h1, if_neg h2, if_pos h1, if_neg h2]; exact ⟨_, rfl⟩
        · by_cases h2 : k > i
          · rw [if_neg h1, if_pos h2, if_neg h1, if_pos h2]; exact ⟨_, rfl⟩
          · rw [if_neg h1, if_neg h2, if_neg h1, if_neg h2]; exact ⟨_, rfl⟩
end
/-! ### defs with keyword-only defaults -/
structure FnK (P : Program) (w : World) (K : PySem.W.Frag) (mg : Str → Option Value) (base : Heap) (k : Nat) (x : Str) (st : Stmt) (kws : List (Str × V)) (ps : List Str) (sp : Sp) : Prop where
  ex : ∃ (f : Addr) (fd : FuncData), FunD K x x (defArgs st) (defBody st) (defScope st) [] kws f fd ∧ FnOk P w K mg base CX0 k f fd ps sp ∧ mg x = some (.ref f)
structure CalK (P : Program) (w : World) (K : PySem.W.Frag) (mg : Str → Option Value) (base : Heap) (k : Nat) (x : Str) (n : Nat) (ks : List Str) (gV : List V → List V → List V) (sp : Sp) : Prop where
  ex : ∃ (f : Addr) (fd : FuncData) (ps : List Str) (g : List Value → List Value → List Value), FnOk P w K mg base CX0 k f fd ps sp ∧ mg x = some (.ref f) ∧ PySem.W.keepIn K (.ref f) = true ∧ KBn K fd ps n ks g gV
section
variable {X : Cx} {k j n : Nat} {x : Str} {ks : List Str} {gV : List V → List V → List V} {sp : Sp} {p pos : Pos} {e : Expr} {es : List Expr} {kws : List Keyword} {t tk : TA}
theorem pe_cK (c : CalK X.prog X.w X.K X.mg X.base k x n ks gV sp) (hr : Room j X.A) (hk : k ≤ j) (hg : Gl X x) (ha : PA X (e :: es) t) (hkw : PK X kws tk)
    (hall : (backToKw pos (keywordEach kws X.env)).all (·.1.isSome) = true := by rfl) (hks : (backToKw pos (keywordEach kws X.env)).filterMap (·.1) = ks := by rfl)
    (hdb : (x == ("__debug__" : Str)) = false := by decide) (he : starEach (e :: es) X.env = (false, eval e X.env) :: starEach es X.env := by rfl)
    (hpl : ((backTo pos (starEach (e :: es) X.env)).any (·.1) || (backToKw pos (keywordEach kws X.env)).any (·.1.isNone)) = false := by rfl) :
    PE X (.Call (.Name x p) (e :: es) kws pos) (tCallN n ks.length sp gV E0 t tk) := by
  obtain ⟨f, fd, ps, g, F, hm, kp, hb⟩ := c.ex
  exact pe_callN F (hr.mono hk) hg hm kp hb pass0 ha hkw hall hks hdb he hpl
end
section
variable {P : Program} {w : World} {K : PySem.W.Frag} {mg : Str → Option Value} {base : Heap} {k : Nat} {x : Str} {st : Stmt} {kws : List (Str × V)} {ps : List Str} {sp : Sp}
/-- all keyword-only parameters are named -/
theorem FnK.cal (F : FnK P w K mg base k x st kws ps sp) (n : Nat) (ks : List Str) (g : {α : Type} → List α → List α → List α) (hk : kws ≠ [])
    (hrel : ∀ {vs zs : List V} {us ws : List Value}, Vals vs us → Vals zs ws → Vals (g vs zs) (g us ws))
    (h : ∀ (D : Addr) (doc pm : Value) (an : Option Addr) (cdv ct : Value) (us ws : List Value), us.length = n → ws.length = ks.length →
      bindArgs (PySem.W.fnOf x x (defArgs st) (defBody st) (defScope st) .none (.ref D) doc pm an cdv ct) ⟨us, ks.zip ws⟩ = pure (ps.zip (g us ws))) : CalK P w K mg base k x n ks (fun vs zs => g vs zs) sp := by
  obtain ⟨f, fd, D, F, hm⟩ := F.ex
  obtain ⟨mv, b⟩ := D.kbinds0 n ks [] (fun us _ ws => g us ws) hk (fun _ h => nomatch h) (fun r1 _ r2 => hrel r1 r2) (fun D doc pm an cdv ct us mv ws l1 _ l2 => h D doc pm an cdv ct us ws l1 l2)
  exact ⟨f, fd, ps, _, F, hm, D.kp, b⟩
/-- no keyword-only parameter is named -/
theorem FnK.cal0 (F : FnK P w K mg base k x st kws ps sp) (n : Nat) (hk : kws ≠ []) (hn : n + kws.length = ps.length)
    (h : ∀ (D : Addr) (doc pm : Value) (an : Option Addr) (cdv ct : Value) (us ks : List Value), us.length = n → ks.length = kws.length →
      KwChain D ((kws.map (·.1)).zip ks) (bindArgs (PySem.W.fnOf x x (defArgs st) (defBody st) (defScope st) .none (.ref D) doc pm an cdv ct) ⟨us, []⟩) (ps.zip (us ++ ks))) : C8.Cal P w K mg base k x sp (kws.map (·.2)) := by
  obtain ⟨f, fd, D, F, hm⟩ := F.ex
  obtain ⟨ds, r, b⟩ := D.binds0 n hk hn h
  exact ⟨f, fd, ps, ds, F, hm, D.kp, b, r⟩
end
theorem vals_cons2 {a b : V} {vs : List V} {us : List Value} (h : Vals (a :: b :: vs) us) : True := trivial
end Ru
set_option Elab.async false
set_option linter.all false
set_option maxRecDepth 100000
set_option maxHeartbeats 4000000
namespace K98
open PySem PySem.Spec PyProof.Rows L2 Ru He6
section
variable {P : Program} {w : World} {K : PySem.W.Frag} {mg : Str → Option Value} {base : Heap}
theorem fn_of' {x qual : Str} {st : Stmt} {f : Addr} {N ps : List Str} {dvs : List V} {kws : List (Str × V)} {k : Nat} {sp : Sp} {fd : FuncData} (F : FunD K x qual (defArgs st) (defBody st) (defScope st) dvs kws f fd) (S : FnScope N ps (defScope st))
    (len : ∀ vs H Q E, sp vs H Q E → vs.length = ps.length)
    (hbody : ∀ (cdv : Value) (A : Around) (outer : List Env) (s : Shared) (H : Hp) (vs : List V) (Q : VK) (E : XK), Room k (A.deeper (envOfC qual (defScope st) s.heap.objs.size f cdv)) → sp vs H Q E →
      ∃ t, PSs (cxOf CX0 P w K mg base N qual (defScope st) f cdv A outer s H E).nox (defBody st) t ∧ t { nx := fun _ H' => Q .non H', rt := Q } (start N vs) H) : FnOk P w K mg base CX0 (k + 1) f fd ps sp :=
  F.ok S len fun cdv A outer s H vs Q E hr h => by
    obtain ⟨t, h1, h2⟩ := hbody cdv A outer s H vs Q E hr h
    exact ⟨t, h1.nox, h2⟩
theorem mak_of {qual cn : Str} {st : Stmt} {C f : Addr} {N ps : List Str} {k : Nat} {sp : Sp} (F : ∃ fd, FunD K "__init__" qual (defArgs st) (defBody st) (defScope st) [] [] f fd) (M : Mk K C f) (hm : mg cn = some (.ref C)) (S : FnScope N ps (defScope st))
    (hb : ∀ (kV doc pm : Value) (an : Option Addr) (cdv ct : Value) (us : List Value), us.length = ps.length → bindArgs (PySem.W.fnOf "__init__" qual (defArgs st) (defBody st) (defScope st) .none kV doc pm an cdv ct) ⟨us, []⟩ = pure (ps.zip us))
    (len : ∀ vs H Q E, sp vs H Q E → vs.length = ps.length)
    (hbody : ∀ (cdv : Value) (A : Around) (outer : List Env) (s : Shared) (H : Hp) (vs : List V) (Q : VK) (E : XK), Room k (A.deeper (envOfC qual (defScope st) s.heap.objs.size f cdv)) → sp vs H Q E →
      ∃ t, PSs (cxOf CX0 P w K mg base N qual (defScope st) f cdv A outer s H E).nox (defBody st) t ∧ t { nx := fun _ H' => Q .non H', rt := Q } (start N vs) H) : C8.Mak P w K mg base (k + 1) cn C sp [] := by
  obtain ⟨fd, F⟩ := F
  exact ⟨f, fd, ps, [], M, fn_of' F S len hbody, hm, F.bindsN hb, .nil⟩
theorem sm_of {x qual : Str} {st : Stmt} {C : Addr} {N ps : List Str} {k : Nat} {sp : Sp} (F : ∃ fd, FunD K x qual (defArgs st) (defBody st) (defScope st) [] [] (He5.wf K C "staticmethod" x) fd) (h : (He5.wrapB K C "staticmethod" "staticmethod.__get__" x && readsB K C) = true) (S : FnScope N ps (defScope st))
    (hb : ∀ (kV doc pm : Value) (an : Option Addr) (cdv ct : Value) (us : List Value), us.length = ps.length → bindArgs (PySem.W.fnOf x qual (defArgs st) (defBody st) (defScope st) .none kV doc pm an cdv ct) ⟨us, []⟩ = pure (ps.zip us))
    (len : ∀ vs H Q E, sp vs H Q E → vs.length = ps.length)
    (hbody : ∀ (cdv : Value) (A : Around) (outer : List Env) (s : Shared) (H : Hp) (vs : List V) (Q : VK) (E : XK), Room k (A.deeper (envOfC qual (defScope st) s.heap.objs.size (He5.wf K C "staticmethod" x) cdv)) → sp vs H Q E →
      ∃ t, PSs (cxOf CX0 P w K mg base N qual (defScope st) (He5.wf K C "staticmethod" x) cdv A outer s H E).nox (defBody st) t ∧ t { nx := fun _ H' => Q .non H', rt := Q } (start N vs) H) : SMet P w K mg base (k + 1) C x sp := by
  obtain ⟨fd, F⟩ := F
  rw [Bool.and_eq_true] at h
  obtain ⟨h1, h2⟩ := He5.wrapB_ok h.1
  exact ⟨readsB_ok h.2, _, _, fd, ps, h1, h2, fn_of' F S len hbody, F.bindsN hb, F.kp⟩
theorem fnk_of {x : Str} {st : Stmt} {f : Addr} {N ps : List Str} {kws : List (Str × V)} {k : Nat} {sp : Sp} (F : ∃ fd, FunD K x x (defArgs st) (defBody st) (defScope st) [] kws f fd) (hm : mg x = some (.ref f)) (S : FnScope N ps (defScope st))
    (len : ∀ vs H Q E, sp vs H Q E → vs.length = ps.length)
    (hbody : ∀ (cdv : Value) (A : Around) (outer : List Env) (s : Shared) (H : Hp) (vs : List V) (Q : VK) (E : XK), Room k (A.deeper (envOfC x (defScope st) s.heap.objs.size f cdv)) → sp vs H Q E →
      ∃ t, PSs (cxOf CX0 P w K mg base N x (defScope st) f cdv A outer s H E).nox (defBody st) t ∧ t { nx := fun _ H' => Q .non H', rt := Q } (start N vs) H) : FnK P w K mg base (k + 1) x st kws ps sp := by
  obtain ⟨fd, F⟩ := F
  exact ⟨f, fd, F, fn_of' F S len hbody, hm⟩
/-- a property -/
structure PropS (P : Program) (w : World) (K : PySem.W.Frag) (mg : Str → Option Value) (base : Heap) (k : Nat) (C : Addr) (f : Str) (sp : Sp) : Prop where
  ex : ∃ (p g : Addr) (fd : FuncData) (ps : List Str), Cls K C ∧ PropOf K C f p g ∧ FnOk P w K mg base CX0 k g fd ps sp ∧ Binds K fd ps []
theorem prop_of {x qual : Str} {st : Stmt} {C : Addr} {N ps : List Str} {k : Nat} {sp : Sp} (F : ∃ fd, FunD K x qual (defArgs st) (defBody st) (defScope st) [] [] (He5.wf K C "property" x) fd) (c : Cls K C) (h : propB K C x = true) (S : FnScope N ps (defScope st))
    (hb : ∀ (kV doc pm : Value) (an : Option Addr) (cdv ct : Value) (us : List Value), us.length = ps.length → bindArgs (PySem.W.fnOf x qual (defArgs st) (defBody st) (defScope st) .none kV doc pm an cdv ct) ⟨us, []⟩ = pure (ps.zip us))
    (len : ∀ vs H Q E, sp vs H Q E → vs.length = ps.length)
    (hbody : ∀ (cdv : Value) (A : Around) (outer : List Env) (s : Shared) (H : Hp) (vs : List V) (Q : VK) (E : XK), Room k (A.deeper (envOfC qual (defScope st) s.heap.objs.size (He5.wf K C "property" x) cdv)) → sp vs H Q E →
      ∃ t, PSs (cxOf CX0 P w K mg base N qual (defScope st) (He5.wf K C "property" x) cdv A outer s H E).nox (defBody st) t ∧ t { nx := fun _ H' => Q .non H', rt := Q } (start N vs) H) : PropS P w K mg base (k + 1) C x sp := by
  obtain ⟨fd, F⟩ := F
  exact ⟨_, _, fd, ps, c, propB_ok h, fn_of' F S len hbody, F.bindsN hb⟩
end
section
variable {X : Cx} {k j : Nat} {C : Addr} {f : Str} {sp : Sp} {e : Expr} {pos : Pos} {ta : TE}
theorem pe_propS (c : PropS X.prog X.w X.K X.mg X.base k C f sp) (hr : Room j X.A) (hk : k + 1 ≤ j) (he : PE X e ta) (hab : attributeBase e f X.env (eval e X.env) = eval e X.env := by rfl) : PE X (.Attribute e f pos) (tProp C sp [] E0 ta) := by
  obtain ⟨p, g, fd, ps, hc, hp, F, hb⟩ := c.ex
  exact pe_prop he hc hp F (hr.mono hk) hb .nil (fun _ _ _ _ _ _ _ h => h.elim) hab
end
end K98
set_option Elab.async false
set_option linter.all false
set_option maxRecDepth 100000
set_option maxHeartbeats 4000000
namespace K98
open PySem PySem.Spec PyProof.Rows L2 Ru He6 TL
open C8 (Cal pe_c)
theorem putF_len (f : Str) (v : V) : ∀ (fs : List (Str × V)), (putF f v fs).length ≤ fs.length + 1
  | [] => Nat.le_refl _
  | (g, x) :: r => by
    unfold putF
    split
    · exact Nat.le_succ _
    · exact Nat.succ_le_succ (putF_len f v r)
theorem putF_le {f : Str} {v : V} {fs : List (Str × V)} {n : Nat} (h : fs.length ≤ n) : (putF f v fs).length ≤ n + 1 := Nat.le_trans (putF_len f v fs) (Nat.succ_le_succ h)
theorem sq_asg {te : TE} {i : Nat} {rest : TS} {D : Ends} {σ : L2.St} {H : Hp} (h : te σ H fun v H1 => rest D (σ.set i (some v)) H1) : tSeq (tAsg te (gName i)) rest D σ H := h
abbrev OneS (C : Addr) (sp : Sp) : Addr → Sp → Prop := fun D s => D = C ∧ s = sp
section
variable {P : Program} {w : World} {K : PySem.W.Frag} {mg : Str → Option Value} {base : Heap}
theorem one_all {k : Nat} {C : Addr} {m : Str} {sp : Sp} (h : MetS P w K mg base k C m sp) : ∀ D s, OneS C sp D s → MetS P w K mg base k D m s := fun D s ⟨h1, h2⟩ => by
  subst h1 h2
  exact h
end
def optV : Option Nat → V
  | none => .non
  | some n => .int (n : Nat)
def getW (ws : List Wd) (i : Nat) : Option Nat := ws.findSome? fun x => match x with | .num j n => if j = i then some n else none | .strict => none
def dirF (ws : List Wd) : List (Str × V) := [("lasts", optV (getW ws 0)), ("shared_lasts", optV (getW ws 1)), ("late", optV (getW ws 2)), ("on_error", optV (getW ws 3)), ("age", .non), ("fresh", .non), ("strict", .bl (ws.contains .strict)), ("check", .bl false), ("own", .bl false), ("never", .bl false), ("kept", .bl false), ("any_late", .bl false)]
def DirAt (K : PySem.W.Frag) (H : Hp) (a : Addr) (ws : List Wd) : Prop := ∃ dx, H a = some (.ins (He.ga K "Directives") dx (dirF ws))
theorem get_dK (i : Nat) (hi : i < 4) : ∀ (ws : List Wd), (∀ x ∈ ws, okW x) → (valV (dK ws) (Sum.inr (nmS i))).getD .non = optV (getW ws i)
  | [], _ => rfl
  | .strict :: ws, h => get_dK i hi ws fun x hx => h x (List.mem_cons_of_mem _ hx)
  | .num j n :: ws, h => by
    have hj := (h (.num j n) (List.mem_cons_self ..)).1
    show (valV ((Sum.inr (nmS j), V.int (n : Nat)) :: dK ws) (Sum.inr (nmS i))).getD .non = optV (List.findSome? _ (.num j n :: ws))
    rw [List.findSome?_cons]
    by_cases c : j = i
    · subst c
      rw [valV_pos rfl]
      simp [optV]
    · rw [valV_neg (fun z => c (congrArg Fin.val (nmS_inj ⟨j, hj⟩ ⟨i, hi⟩ (Sum.inr.inj z)))), get_dK i hi ws fun x hx => h x (List.mem_cons_of_mem _ hx)]
      simp [c, getW]
theorem get_no {y : Str} (hy : ∀ i : Fin 4, nmS i.val ≠ y) : ∀ (ws : List Wd), (∀ x ∈ ws, okW x) → (valV (dK ws) (Sum.inr y)).getD .non = .non
  | [], _ => rfl
  | .strict :: ws, h => get_no hy ws fun x hx => h x (List.mem_cons_of_mem _ hx)
  | .num j n :: ws, h => by
    have hj := (h (.num j n) (List.mem_cons_self ..)).1
    show (valV ((Sum.inr (nmS j), V.int (n : Nat)) :: dK ws) (Sum.inr y)).getD .non = .non
    rw [valV_neg (fun z => hy ⟨j, hj⟩ (Sum.inr.inj z))]
    exact get_no hy ws fun x hx => h x (List.mem_cons_of_mem _ hx)
theorem wtx_no : ∀ i n : Fin 4, ∀ y ∈ [("check" : Str), "own", "never", "kept", "late", "strict"], wtx (.num i.val n.val) ≠ y := by decide +kernel
theorem wtx_no2 : ∀ y ∈ [("check" : Str), "own", "never", "kept", "late"], wtx .strict ≠ y := by decide +kernel
theorem in_no {y : Str} (hy : y ∈ [("check" : Str), "own", "never", "kept", "late"]) : ∀ (ws : List Wd), (∀ x ∈ ws, okW x) → inV (.str y) (ws.map fun x => V.str (wtx x)) = false := fun ws h => by
  unfold inV
  rw [List.any_eq_false]
  intro v hv
  obtain ⟨x, hx, rfl⟩ := List.mem_map.mp hv
  have hne : wtx x ≠ y := by
    cases x with
    | strict => exact wtx_no2 y hy
    | num i n => exact wtx_no ⟨i, (h _ hx).1⟩ ⟨n, (h _ hx).2⟩ y (by simp only [List.mem_cons, List.not_mem_nil, or_false] at hy ⊢; rcases hy with h | h | h | h | h <;> simp [h])
  show ¬ (wtx x == y) = true
  exact fun z => hne (eq_of_beq z)
theorem in_strict : ∀ (ws : List Wd), (∀ x ∈ ws, okW x) → inV (.str "strict") (ws.map fun x => V.str (wtx x)) = ws.contains .strict
  | [], _ => rfl
  | .strict :: ws, h => by
    have e1 : inV (.str "strict") ((Wd.strict :: ws).map fun x => V.str (wtx x)) = ((("strict" : Str) == "strict") || inV (.str "strict") (ws.map fun x => V.str (wtx x))) := rfl
    rw [e1, List.contains_cons]
    simp
  | .num j n :: ws, h => by
    have q := h (.num j n) (List.mem_cons_self ..)
    have h1 : (wtx (.num j n) == ("strict" : Str)) = false := beq_eq_false_iff_ne.mpr (wtx_no ⟨j, q.1⟩ ⟨n, q.2⟩ "strict" (by simp))
    show (wtx (.num j n) == ("strict" : Str) || inV (.str "strict") (ws.map fun x => V.str (wtx x))) = _
    rw [h1, Bool.false_or, in_strict ws fun x hx => h x (List.mem_cons_of_mem _ hx)]
    rw [List.contains_cons]
    rfl
theorem flat_ws (ws : List Wd) : (ws.map fun x => V.str (wtx x)).all flatV = true := by
  rw [List.all_map]; exact List.all_eq_true.mpr fun _ _ => rfl
section
variable {P : Program} {w : World} {K : PySem.W.Frag} {mg : Str → Option Value} {base : Heap}
theorem sc_list_elements : FnScope ["text", "elements_found", "part_text", "element"] ["text"] (defScope s_list_elements) := ⟨rfl, rfl, rfl, by decide +kernel, rfl, by decide +kernel, by decide +kernel⟩
def sp_list_elements (K : PySem.W.Frag) : Sp := fun vs H Q _ => ∃ t : Str, vs = [.str t] ∧ t.length ≤ 1000 ∧ (∀ y ∈ Txt.split t ",", y.length ≤ 1000) ∧ (Txt.split t ",").length ≤ 1000 ∧ ∀ L H', Same H H' → H L = none → H' L = some (.lst ((elementsOf t).map V.str)) → Q (.ref L) H'
theorem ok_list_elements (T : TT K mg) : Cal P w K mg base 1 "list_elements" (sp_list_elements K) [] := by
  refine cal_of (f_list_elements T) (g_list_elements T) sc_list_elements (fun _ _ _ _ _ _ us hl => match us, hl with | [_], _ => rfl) (fun vs H Q E h => ?_) (fun cdv A outer s H vs Q E hr h => ?_)
  · obtain ⟨t, rfl, ht, hy, hn, k⟩ := h; rfl
  · obtain ⟨t, rfl, ht, hy, hn, k⟩ := h
    refine ⟨_, (pss_cons (ps_set (i := 1) sc_list_elements.nd rfl (.inl rfl) (pe_lst pa_nil))
      (pss_cons (ps_for PassesOwn.never rfl (pi_list (pe_split (pv 0) pe_str)) (pg_name (i := 2) sc_list_elements.nd rfl (.inl rfl))
      (pss_cons (ps_set (i := 3) sc_list_elements.nd rfl (.inl rfl) (pe_bm PySem.F.plainAttrs_str PySem.F.slot_str_strip PySem.F.type_str_strip mt_stripChars (pv 2) (pa_cons pe_str pa_nil)))
      (pss_one (ps_if (pt_cmpR op_ne (pv 3) pe_str (nomark _))
      (pss_one (ps_expr (pe_bm PySem.F.plainAttrs_list PySem.F.slot_list_append PySem.F.type_list_append mt_append (pv 1) (pa_cons (pv 3) pa_nil))))
      pss_nil))))
      (pss_one (ps_ret (pv 1))))), ?_⟩
    refine ⟨by show 0 ≤ sizeLine; decide, fun L hL => ?_⟩
    refine ⟨_, rfl, ⟨_, rfl⟩, _, _, rfl, rfl, by decide +kernel, Nat.le_trans (Nat.add_le_add_right ht 2) (by decide), fun p hp => ?_⟩
    have e0 : Same H (upd (upd H L (.lst [])) p (.lst ((Txt.split t ",").map V.str))) := (same_new hL).trans (same_new hp)
    have hp1 : (upd (upd H L (.lst [])) p (.lst ((Txt.split t ",").map V.str))) p = some (.lst ((Txt.split t ",").map V.str)) := upd_same
    have hL1 : (upd (upd H L (.lst [])) p (.lst ((Txt.split t ",").map V.str))) L = some (.lst []) := by rw [upd_ne (ne_of_none upd_same hp)]; exact upd_same
    have hpL : p ≠ L := fun z => by rw [z, upd_same] at hp; cases hp
    generalize upd (upd H L (.lst [])) p (.lst ((Txt.split t ",").map V.str)) = H1 at e0 hp1 hL1
    refine ⟨p, rfl, ⟨_, .of hp1⟩, ?_⟩
    refine for_it (walk_list (xs := (Txt.split t ",").map V.str)) (fun i σ H' => (∃ x2 x3, σ = [some (.str t), some (.ref L), x2, x3]) ∧ Same H H' ∧ H' p = some (.lst ((Txt.split t ",").map V.str)) ∧
      H' L = some (.lst (((((Txt.split t ",").take i).map fun x => Txt.stripChars x " ").filter fun (x : Str) => decide (x ≠ "")).map V.str))) ?_ ?_ ?_ ?_
    · exact ⟨⟨_, _, rfl⟩, e0, hp1, hL1⟩
    · rintro i σ H' _ ⟨_, _, h, _⟩
      exact .of h
    · rintro i x σ H2 _ hi ⟨⟨x2, x3, rfl⟩, e, hp2, hL2⟩ ⟨rfl, hx⟩
      rw [List.length_map] at hi
      have hx' : x = .str (Txt.split t ",")[i] := by
        rw [List.getElem?_map, List.getElem?_eq_getElem hi] at hx
        exact (Option.some.inj hx).symm
      subst hx'
      have htk : (Txt.split t ",").take (i + 1) = (Txt.split t ",").take i ++ [(Txt.split t ",")[i]] := List.take_succ_eq_append_getElem hi
      have hyl := hy _ (List.getElem_mem hi)
      refine ⟨_, rfl, rfl, _, _, rfl, rfl, Nat.le_trans hyl (by decide), ?_⟩
      refine ⟨_, rfl, rfl, _, rfl, ?_⟩
      by_cases c : Txt.stripChars (Txt.split t ",")[i] " " = ""
      · rw [show (!decide (V.str (Txt.stripChars (Txt.split t ",")[i] " ") = V.str "")) = false by rw [c]; simp]
        refine iteF ⟨⟨_, _, rfl⟩, e, hp2, ?_⟩
        rw [hL2, htk, List.map_append, List.filter_append, List.map_append]
        simp [c]
      · rw [show (!decide (V.str (Txt.stripChars (Txt.split t ",")[i] " ") = V.str "")) = true by simp [c]]
        refine iteT ⟨_, rfl, .inl ⟨rfl, _, .of hL2⟩, _, rfl, L, _, _, rfl, rfl, hL2, ?_, ⟨_, _, rfl⟩, same_mut e hL, ?_, ?_⟩
        · rw [List.length_map]
          refine Nat.lt_of_le_of_lt (Nat.le_trans (List.length_filter_le ..) ?_) (show 1000 < sizeLine by decide)
          rw [List.length_map]
          exact Nat.le_trans (List.length_take_le' ..) hn
        · rw [upd_ne hpL]; exact hp2
        · rw [upd_same, htk, List.map_append, List.filter_append, List.map_append]
          simp [c]
    · rintro σ H2 ⟨⟨x2, x3, rfl⟩, e, hp2, hL2⟩
      rw [List.length_map, List.take_length] at hL2
      exact ⟨_, rfl, k L H2 e hL hL2⟩
theorem sc_Directives__init : FnScope ["self", "words", "numbers"] ["self", "words"] (defScope s_Directives__init) := ⟨rfl, rfl, rfl, by decide +kernel, rfl, by decide +kernel, by decide +kernel⟩
def sp_Directives__init (K : PySem.W.Frag) : Sp := fun vs H Q _ => ∃ a l ws dx, vs = [.ref a, .ref l] ∧ SqL K H l (ws.map fun x => V.str (wtx x)) ∧ ws.length ≤ 100 ∧ (∀ x ∈ ws, okW x) ∧ onceW ws ∧ H a = some (.ins (He.ga K "Directives") dx []) ∧ ∀ H', (∀ b o, H b = some o → b ≠ a → H' b = some o) → H' a = some (.ins (He.ga K "Directives") dx (dirF ws)) → Q .non H'
theorem ok_Directives__init (T : TT K mg) : C8.Mak P w K mg base 5 "Directives" (He.ga K "Directives") (sp_Directives__init K) [] := by
  refine mak_of (f_Directives__init T) (k_Directives T) (g_Directives T) sc_Directives__init (fun _ _ _ _ _ _ us hl => match us, hl with | [_, _], _ => rfl) (fun vs H Q E h => ?_) (fun cdv A outer s H vs Q E hr h => ?_)
  · obtain ⟨a, l, ws, dx, rfl, hl, hn, hok, hon, ha, k⟩ := h; rfl
  · obtain ⟨a, l, ws, dx, rfl, hl, hn, hok, hon, ha, k⟩ := h
    refine ⟨_, (pss_cons (ps_set (i := 2) sc_Directives__init.nd rfl (.inl rfl) (pe_c (ok_least_numbers T) hr (by decide) (by rfl) (pa_cons (pv 1) pa_nil)))
      (pss_cons (ps_fld (pv 0) (pe_dget1 (hu_of hr) (pv 2) pe_str ⟨rfl, rfl, rfl, rfl⟩) rfl)
      (pss_cons (ps_fld (pv 0) (pe_dget1 (hu_of hr) (pv 2) pe_str ⟨rfl, rfl, rfl, rfl⟩) rfl)
      (pss_cons (ps_fld (pv 0) (pe_dget1 (hu_of hr) (pv 2) pe_str ⟨rfl, rfl, rfl, rfl⟩) rfl)
      (pss_cons (ps_fld (pv 0) (pe_dget1 (hu_of hr) (pv 2) pe_str ⟨rfl, rfl, rfl, rfl⟩) rfl)
      (pss_cons (ps_fld (pv 0) (pe_dget1 (hu_of hr) (pv 2) pe_str ⟨rfl, rfl, rfl, rfl⟩) rfl)
      (pss_cons (ps_fld (pv 0) (pe_dget1 (hu_of hr) (pv 2) pe_str ⟨rfl, rfl, rfl, rfl⟩) rfl)
      (pss_cons (ps_fld (pv 0) (pe_cmpR op_in_seq pe_str (pv 1) rfl) rfl)
      (pss_cons (ps_fld (pv 0) (pe_cmpR op_in_seq pe_str (pv 1) rfl) rfl)
      (pss_cons (ps_fld (pv 0) (pe_cmpR op_in_seq pe_str (pv 1) rfl) rfl)
      (pss_cons (ps_fld (pv 0) (pe_cmpR op_in_seq pe_str (pv 1) rfl) rfl)
      (pss_cons (ps_fld (pv 0) (pe_cmpR op_in_seq pe_str (pv 1) rfl) rfl)
      (pss_one (ps_fld (pv 0) (pe_and (pe_cmpR op_in_seq pe_str (pv 1) rfl) (pe_one (pe_cmp (pc_isN (pe_fld (pv 0) rfl))))) rfl)))))))))))))), ?_⟩
    refine sq_asg ⟨_, rfl, l, ws, rfl, hl, hn, hok, hon, fun d H1 e1 hd0 hd => ?_⟩
    have ha1 := e1 _ _ ha
    have hda : d ≠ a := fun z => by rw [z, ha] at hd0; cases hd0
    have c := c_Directives T
    have hflat := flat_ws ws
    have hlk : ∀ {H'' : Hp}, (∀ b o, H b = some o → b ≠ a → H'' b = some o) → SqL K H'' l (ws.map fun x => V.str (wtx x)) := fun {H''} h => by
      rcases hl with h1 | h1
      · refine .inl (h1.elim (fun h1 => .inl (h _ _ h1 fun z => ?_)) (fun ⟨o, h1⟩ => .inr ⟨o, h _ _ h1 fun z => ?_⟩))
        · rw [z, ha] at h1; cases h1
        · rw [z, ha] at h1; cases h1
      · exact .inr h1
    have kp : ∀ {H'' : Hp} {o' : HO}, (∀ b o, H b = some o → b ≠ a → H'' b = some o) → ∀ b o, H b = some o → b ≠ a → (upd H'' a o') b = some o := fun h b o h1 h2 => by rw [upd_ne h2]; exact h b o h1 h2
    have kd : ∀ {H'' : Hp} {o' : HO}, H'' d = some (.dK (dK ws)) → (upd H'' a o') d = some (.dK (dK ws)) := fun h => by rw [upd_ne hda]; exact h
    have q1 : ∀ b o, H b = some o → b ≠ a → H1 b = some o := fun b o h1 _ => e1 b o h1
    have hpl : ∀ (f : Str) (v : V) (fs : List (Str × V)), (putF f v fs).length ≤ fs.length + 1 := fun f v fs => putF_len f v fs
    have stepG : ∀ {fs : List (Str × V)} {H'' : Hp} {rest : TS} {D : Ends} {y f : Str}, (∀ b o, H b = some o → b ≠ a → H'' b = some o) → H'' d = some (.dK (dK ws)) → H'' a = some (.ins (He.ga K "Directives") dx fs) → NoAttr K (He.ga K "Directives") f → fs.length ≤ 20 →
        (∀ H3, (∀ b o, H b = some o → b ≠ a → H3 b = some o) → H3 d = some (.dK (dK ws)) → H3 a = some (.ins (He.ga K "Directives") dx (putF f ((valV (dK ws) (Sum.inr y)).getD .non) fs)) → rest D [some (.ref a), some (.ref l), some (.ref d)] H3) →
        tSeq (sFld K (tVar 0) (tDGet1 (tVar 2) (tC (V.str y))) f) rest D [some (.ref a), some (.ref l), some (.ref d)] H'' := fun {fs H'' rest D y f} i1 i2 i3 na hf kk =>
      ⟨_, rfl, d, rfl, .inl ⟨_, .inl i2⟩, _, DGet.k (k := Sum.inr y) i2, _, rfl, a, _, dx, fs, rfl, i3, c, na, Nat.lt_of_le_of_lt hf (by decide), kk _ (kp i1) (kd i2) upd_same⟩
    have stepI : ∀ {fs : List (Str × V)} {H'' : Hp} {rest : TS} {D : Ends} {y f : Str}, (∀ b o, H b = some o → b ≠ a → H'' b = some o) → H'' d = some (.dK (dK ws)) → H'' a = some (.ins (He.ga K "Directives") dx fs) → NoAttr K (He.ga K "Directives") f → fs.length ≤ 20 →
        (∀ H3, (∀ b o, H b = some o → b ≠ a → H3 b = some o) → H3 d = some (.dK (dK ws)) → H3 a = some (.ins (He.ga K "Directives") dx (putF f (.bl (inV (.str y) (ws.map fun x => V.str (wtx x)))) fs)) → rest D [some (.ref a), some (.ref l), some (.ref d)] H3) →
        tSeq (sFld K (tVar 0) (tOp (rIn K false) (tC (V.str y)) (tVar 1)) f) rest D [some (.ref a), some (.ref l), some (.ref d)] H'' := fun {fs H'' rest D y f} i1 i2 i3 na hf kk =>
      ⟨_, rfl, l, _, rfl, .inl (hlk i1), rfl, hflat, _, rfl, a, _, dx, fs, rfl, i3, c, na, Nat.lt_of_le_of_lt hf (by decide), kk _ (kp i1) (kd i2) upd_same⟩
    refine stepG q1 hd ha1 (n_Directives_lasts T) (Nat.zero_le _) fun H2 i1 i2 i3 => ?_
    refine stepG i1 i2 i3 (n_Directives_shared_lasts T) (Nat.le_trans (putF_le (Nat.zero_le 0)) (by decide)) fun H2 i1 i2 i3 => ?_
    refine stepG i1 i2 i3 (n_Directives_late T) (Nat.le_trans (putF_le (putF_le (Nat.zero_le 0))) (by decide)) fun H2 i1 i2 i3 => ?_
    refine stepG i1 i2 i3 (n_Directives_on_error T) (Nat.le_trans (putF_le (putF_le (putF_le (Nat.zero_le 0)))) (by decide)) fun H2 i1 i2 i3 => ?_
    refine stepG i1 i2 i3 (n_Directives_age T) (Nat.le_trans (putF_le (putF_le (putF_le (putF_le (Nat.zero_le 0))))) (by decide)) fun H2 i1 i2 i3 => ?_
    refine stepG i1 i2 i3 (n_Directives_fresh T) (Nat.le_trans (putF_le (putF_le (putF_le (putF_le (putF_le (Nat.zero_le 0)))))) (by decide)) fun H2 i1 i2 i3 => ?_
    refine stepI i1 i2 i3 (n_Directives_strict T) (Nat.le_trans (putF_le (putF_le (putF_le (putF_le (putF_le (putF_le (Nat.zero_le 0))))))) (by decide)) fun H2 i1 i2 i3 => ?_
    refine stepI i1 i2 i3 (n_Directives_check T) (Nat.le_trans (putF_le (putF_le (putF_le (putF_le (putF_le (putF_le (putF_le (Nat.zero_le 0)))))))) (by decide)) fun H2 i1 i2 i3 => ?_
    refine stepI i1 i2 i3 (n_Directives_own T) (Nat.le_trans (putF_le (putF_le (putF_le (putF_le (putF_le (putF_le (putF_le (putF_le (Nat.zero_le 0))))))))) (by decide)) fun H2 i1 i2 i3 => ?_
    refine stepI i1 i2 i3 (n_Directives_never T) (Nat.le_trans (putF_le (putF_le (putF_le (putF_le (putF_le (putF_le (putF_le (putF_le (putF_le (Nat.zero_le 0)))))))))) (by decide)) fun H2 i1 i2 i3 => ?_
    refine stepI i1 i2 i3 (n_Directives_kept T) (Nat.le_trans (putF_le (putF_le (putF_le (putF_le (putF_le (putF_le (putF_le (putF_le (putF_le (putF_le (Nat.zero_le 0))))))))))) (by decide)) fun H2 i1 i2 i3 => ?_
    refine ⟨_, rfl, l, _, rfl, .inl (hlk i1), rfl, hflat, _, rfl, ?_⟩
    rw [show (if false = true then !inV (V.str "late") (ws.map fun x => V.str (wtx x)) else inV (V.str "late") (ws.map fun x => V.str (wtx x))) = false from in_no (by simp) ws hok]
    refine iteF ⟨_, rfl, a, _, dx, _, rfl, i3, c, n_Directives_any_late T, Nat.lt_of_le_of_lt (putF_le (putF_le (putF_le (putF_le (putF_le (putF_le (putF_le (putF_le (putF_le (putF_le (putF_le (Nat.zero_le 0)))))))))))) (by decide), k _ (kp i1) ?_⟩
    rw [upd_same]
    rw [in_strict ws hok, in_no (y := "check") (by simp) ws hok, in_no (y := "own") (by simp) ws hok, in_no (y := "never") (by simp) ws hok, in_no (y := "kept") (by simp) ws hok]
    rw [show (valV (dK ws) (Sum.inr ("lasts" : Str))).getD .non = optV (getW ws 0) from get_dK 0 (by decide) ws hok, show (valV (dK ws) (Sum.inr ("shared-lasts" : Str))).getD .non = optV (getW ws 1) from get_dK 1 (by decide) ws hok,
      show (valV (dK ws) (Sum.inr ("late" : Str))).getD .non = optV (getW ws 2) from get_dK 2 (by decide) ws hok, show (valV (dK ws) (Sum.inr ("on-error" : Str))).getD .non = optV (getW ws 3) from get_dK 3 (by decide) ws hok,
      get_no (y := "age") (by decide +kernel) ws hok, get_no (y := "fresh") (by decide +kernel) ws hok]
    exact congrArg (fun fs => some (HO.ins (He.ga K "Directives") dx fs)) (by kernel_rfl)
def splitOk (t : Str) : Prop := t.length ≤ 1000 ∧ (∀ y ∈ Txt.split t ",", y.length ≤ 1000) ∧ (Txt.split t ",").length ≤ 1000
/-- what a text says -/
def tdw (o : Option Str) (ws : List Wd) : Prop := match o with
  | none => ws = []
  | some t => splitOk t ∧ elementsOf t = ws.map wtx
def optS : Option Str → V
  | none => .non
  | some t => .str t
theorem sc_Directives_read : FnScope ["text"] ["text"] (defScope s_Directives_read) := ⟨rfl, rfl, rfl, by decide +kernel, rfl, by decide +kernel, by decide +kernel⟩
def sp_Directives_read (K : PySem.W.Frag) : Sp := fun vs H Q _ => ∃ o ws, vs = [optS o] ∧ tdw o ws ∧ ws.length ≤ 100 ∧ (∀ x ∈ ws, okW x) ∧ onceW ws ∧ ∀ a H', Same H H' → DirAt K H' a ws → Q (.ref a) H'
theorem ok_Directives_read (T : TT K mg) : SMet P w K mg base 7 (He.ga K "Directives") "read" (sp_Directives_read K) := by
  refine sm_of (f_Directives_read T) (x_3 T) sc_Directives_read (fun _ _ _ _ _ _ us hl => match us, hl with | [_], _ => rfl) (fun vs H Q E h => ?_) (fun cdv A outer s H vs Q E hr h => ?_)
  · obtain ⟨o, ws, rfl, ht, hn, hok, hon, k⟩ := h; rfl
  · obtain ⟨o, ws, rfl, ht, hn, hok, hon, k⟩ := h
    refine ⟨_, (pss_cons (ps_if (pt_cmp (pc_isN (pv 0)))
      (pss_one (ps_ret (C8.pe_mk (ok_Directives__init T) hr (by decide) (by rfl) (pa_cons (pe_lst pa_nil) pa_nil))))
      pss_nil)
      (pss_one (ps_ret (C8.pe_mk (ok_Directives__init T) hr (by decide) (by rfl) (pa_cons (pe_c (ok_list_elements T) hr (by decide) (by rfl) (pa_cons (pv 0) pa_nil)) pa_nil))))), ?_⟩
    have fin : ∀ {H0 H1 : Hp} {x dx : Addr}, Same H H0 → H0 x = none → H0 dx = none → dx ≠ x → (∀ b o, (upd (upd H0 dx (.own x)) x (.ins (He.ga K "Directives") dx [])) b = some o → b ≠ x → H1 b = some o) → Same H H1 := fun {H0 H1 x dx} e hx hdx hne h b o hb => by
      have h0 := e b o hb
      refine h b o ?_ (ne_of_none h0 hx)
      rw [upd_ne (ne_of_none h0 hx), upd_ne (ne_of_none h0 hdx)]; exact h0
    cases o with
    | none =>
      have ht : ws = [] := ht
      subst ht
      refine ⟨_, rfl, _, rfl, iteT ?_⟩
      refine ⟨by show 0 ≤ sizeLine; decide, fun l hl x dx hx hdx hne => ?_⟩
      have e1 : Same (upd H l (.lst [])) (upd (upd (upd H l (.lst [])) dx (.own x)) x (.ins (He.ga K "Directives") dx [])) := Same.trans (same_new hdx) (same_new (by rw [upd_ne (fun z => hne z.symm)]; exact hx))
      refine ⟨x, l, [], dx, rfl, .of (e1 _ _ upd_same), by decide, (fun _ h => by cases h), hon, upd_same, fun H' h1 h2 => ⟨rfl, k x H' (fin (same_new hl) hx hdx hne h1) ⟨dx, h2⟩⟩⟩
    | some t =>
      obtain ⟨⟨s1, s2, s3⟩, s4⟩ := ht
      refine ⟨_, rfl, _, rfl, iteF ?_⟩
      refine ⟨_, rfl, t, rfl, s1, s2, s3, fun l H1 e1 hl0 hl x dx hx hdx hne => ?_⟩
      have e2 : Same H1 (upd (upd H1 dx (.own x)) x (.ins (He.ga K "Directives") dx [])) := Same.trans (same_new hdx) (same_new (by rw [upd_ne (fun z => hne z.symm)]; exact hx))
      have hl2 := e2 _ _ hl
      rw [s4, List.map_map] at hl2
      exact ⟨x, l, ws, dx, rfl, .of hl2, hn, hok, hon, upd_same, fun H' h1 h2 => ⟨rfl, k x H' (fin e1 hx hdx hne h1) ⟨dx, h2⟩⟩⟩
end
end K98
set_option Elab.async false
set_option linter.all false
set_option maxRecDepth 100000
set_option maxHeartbeats 4000000
namespace K98
open PySem PySem.Spec PyProof.Rows L2 Ru He6 TL
open C8 (Cal pe_c)
def kdF (k : KindD) : List (Str × V) := [("lasts", .int (k.lasts : Nat)), ("shared_lasts", optV k.shared), ("late", .int (k.late : Nat)), ("on_error", .int (k.onErr : Nat)), ("strict", .bl k.strict), ("check", .bl false), ("own", .bl false), ("never", .bl false), ("mark", .str k.mark), ("dated", .bl k.dated), ("margin", .int (k.margin : Nat))]
theorem kdF_lasts (m : KindD) : (kdF m).lookup ("lasts" : Str) = some (.int (m.lasts : Nat)) := by kernel_rfl
theorem kdF_shared (m : KindD) : (kdF m).lookup ("shared_lasts" : Str) = some (optV m.shared) := by kernel_rfl
theorem kdF_late (m : KindD) : (kdF m).lookup ("late" : Str) = some (.int (m.late : Nat)) := by kernel_rfl
theorem kdF_on (m : KindD) : (kdF m).lookup ("on_error" : Str) = some (.int (m.onErr : Nat)) := by kernel_rfl
theorem kdF_strict (m : KindD) : (kdF m).lookup ("strict" : Str) = some (.bl m.strict) := by kernel_rfl
theorem kdF_check (m : KindD) : (kdF m).lookup ("check" : Str) = some (.bl false) := by kernel_rfl
theorem kdF_own (m : KindD) : (kdF m).lookup ("own" : Str) = some (.bl false) := by kernel_rfl
theorem kdF_never (m : KindD) : (kdF m).lookup ("never" : Str) = some (.bl false) := by kernel_rfl
theorem kdF_mark (m : KindD) : (kdF m).lookup ("mark" : Str) = some (.str m.mark) := by kernel_rfl
theorem kdF_dated (m : KindD) : (kdF m).lookup ("dated" : Str) = some (.bl m.dated) := by kernel_rfl
theorem kdF_margin (m : KindD) : (kdF m).lookup ("margin" : Str) = some (.int (m.margin : Nat)) := by kernel_rfl
theorem kdF_keep (m : KindD) : (kdF m).lookup ("keep_field" : Str) = none := by kernel_rfl
def kdOk (k : KindD) : Prop := k.lasts < 4 ∧ (∀ n, k.shared = some n → n < 4) ∧ k.late < 4 ∧ k.onErr < 4
def KindAt (K : PySem.W.Frag) (H : Hp) (a : Addr) (k : KindD) : Prop := ∃ dx, H a = some (.ins (He.ga K "Kind") dx (kdF k))
theorem KindAt.mono {K : PySem.W.Frag} {H H' : Hp} {a : Addr} {k : KindD} (e : Same H H') : KindAt K H a k → KindAt K H' a k := fun ⟨dx, h⟩ => ⟨dx, e _ _ h⟩
def wsK (k : KindD) : List Wd := wordsOf k.lasts k.shared k.late k.onErr k.strict
def pre : Nat → Str
  | 0 => "lasts="
  | 1 => "shared-lasts="
  | 2 => "late="
  | _ => "on-error="
theorem pre_ok : ∀ i n : Fin 4, (Str.empty ++ pre i.val) ++ toString ((n.val : Nat) : Int) = wtx (.num i.val n.val) ∧ decide ((Str.empty ++ pre i.val).length ≤ 1000) = true ∧ decide (((Str.empty ++ pre i.val) ++ toString ((n.val : Nat) : Int)).length ≤ 1000) = true := by decide +kernel
theorem wsK_ok {k : KindD} (h : kdOk k) : ∀ x ∈ wsK k, okW x := by
  obtain ⟨h1, h2, h3, h4⟩ := h
  intro x hx
  unfold wsK wordsOf at hx
  simp only [List.mem_append, List.mem_singleton] at hx
  rcases hx with (((hx | hx) | hx) | hx) | hx
  · subst hx; exact ⟨by decide, h1⟩
  · cases e : k.shared with
    | none => rw [e] at hx; cases hx
    | some n => rw [e] at hx; simp only [List.mem_singleton] at hx; subst hx; exact ⟨by decide, h2 n e⟩
  · split at hx
    · simp only [List.mem_singleton] at hx; subst hx; exact ⟨by decide, h3⟩
    · cases hx
  · split at hx
    · simp only [List.mem_singleton] at hx; subst hx; exact ⟨by decide, h4⟩
    · cases hx
  · split at hx
    · simp only [List.mem_singleton] at hx; subst hx; exact trivial
    · cases hx
theorem wsK_len (k : KindD) : (wsK k).length ≤ 5 := by
  unfold wsK wordsOf
  cases k.shared <;> by_cases h1 : 0 < k.late <;> by_cases h2 : 0 < k.onErr <;> cases k.strict <;> simp [h1, h2]
def idxW : Wd → Nat
  | .num i _ => i
  | .strict => 4
theorem once_sorted : ∀ {ws : List Wd}, (ws.map idxW).Pairwise (· < ·) → onceW ws := fun {ws} h a b i n m hab ha hb => by
  have h1 := List.getElem?_eq_some_iff.mp ha
  have h2 := List.getElem?_eq_some_iff.mp hb
  obtain ⟨l1, e1⟩ := h1
  obtain ⟨l2, e2⟩ := h2
  have := List.pairwise_iff_getElem.mp h a b (by simpa using l1) (by simpa using l2) hab
  simp [e1, e2, idxW] at this
theorem wsK_once (k : KindD) : onceW (wsK k) := by
  refine once_sorted ?_
  unfold wsK wordsOf
  cases k.shared <;> by_cases h1 : 0 < k.late <;> by_cases h2 : 0 < k.onErr <;> cases k.strict <;> simp [h1, h2, idxW]
theorem lens_ok : ∀ (ws : List Wd), (∀ x ∈ ws, okW x) → ((ws.map wtx).map (·.length)).sum ≤ 100 * ws.length
  | [], _ => Nat.zero_le _
  | x :: ws, h => by
    have h1 := lens_ok ws fun y hy => h y (List.mem_cons_of_mem _ hy)
    have h2 : (wtx x).length ≤ 100 := by
      cases x with
      | strict => exact of_decide_eq_true part_s.2.2
      | num i n =>
        have q := h (.num i n) (List.mem_cons_self ..)
        exact of_decide_eq_true (part_n ⟨i, q.1⟩ ⟨n, q.2⟩).2.2
    simp only [List.map_cons, List.sum_cons, List.length_cons]
    omega
section
variable {P : Program} {w : World} {K : PySem.W.Frag} {mg : Str → Option Value} {base : Heap}
theorem sc_Kind_keep_field : FnScope ["self", "written"] ["self"] (defScope s_Kind_keep_field) := ⟨rfl, rfl, rfl, by decide +kernel, rfl, by decide +kernel, by decide +kernel⟩
def sp_Kind_keep_field (K : PySem.W.Frag) : Sp := fun vs H Q _ => ∃ a kd, vs = [.ref a] ∧ KindAt K H a kd ∧ kdOk kd ∧ ∀ H', Same H H' → Q (.str (keepText (wsK kd))) H'
theorem ok_Kind_keep_field (T : TT K mg) : MetS P w K mg base 1 (He.ga K "Kind") "keep_field" (sp_Kind_keep_field K) := by
  refine met_of (f_Kind_keep_field T) (c_Kind T) (m_Kind_keep_field T) sc_Kind_keep_field (fun _ _ _ _ _ _ us hl => match us, hl with | [_], _ => rfl) (fun vs H Q E h => ?_) (fun cdv A outer s H vs Q E hr h => ?_)
  · obtain ⟨a, kd, rfl, ⟨dx, ha⟩, hok, k⟩ := h; rfl
  · obtain ⟨a, kd, rfl, ⟨dx, ha⟩, hok, k⟩ := h
    refine ⟨_, (pss_cons (ps_set (i := 1) sc_Kind_keep_field.nd rfl (.inl rfl) (pe_lst pa_nil))
      (pss_cons (ps_if (pt_cmp (pc_notN (pe_fld (pv 0) rfl)))
      (pss_one (ps_expr (pe_bm PySem.F.plainAttrs_list PySem.F.slot_list_append PySem.F.type_list_append mt_append (pv 1) (pa_cons (pe_joined (.cons pe_str (.cons (pe_fmt (pe_fld (pv 0) rfl)) .nil))) pa_nil))))
      pss_nil)
      (pss_cons (ps_if (pt_cmp (pc_notN (pe_fld (pv 0) rfl)))
      (pss_one (ps_expr (pe_bm PySem.F.plainAttrs_list PySem.F.slot_list_append PySem.F.type_list_append mt_append (pv 1) (pa_cons (pe_joined (.cons pe_str (.cons (pe_fmt (pe_fld (pv 0) rfl)) .nil))) pa_nil))))
      pss_nil)
      (pss_cons (ps_if (pt_cmpR op_gt (pe_fld (pv 0) rfl) pe_int (nomark _))
      (pss_one (ps_expr (pe_bm PySem.F.plainAttrs_list PySem.F.slot_list_append PySem.F.type_list_append mt_append (pv 1) (pa_cons (pe_joined (.cons pe_str (.cons (pe_fmt (pe_fld (pv 0) rfl)) .nil))) pa_nil))))
      pss_nil)
      (pss_cons (ps_if (pt_cmpR op_gt (pe_fld (pv 0) rfl) pe_int (nomark _))
      (pss_one (ps_expr (pe_bm PySem.F.plainAttrs_list PySem.F.slot_list_append PySem.F.type_list_append mt_append (pv 1) (pa_cons (pe_joined (.cons pe_str (.cons (pe_fmt (pe_fld (pv 0) rfl)) .nil))) pa_nil))))
      pss_nil)
      (pss_cons (ps_if (pt_val (pe_fld (pv 0) rfl))
      (pss_one (ps_expr (pe_bm PySem.F.plainAttrs_list PySem.F.slot_list_append PySem.F.type_list_append mt_append (pv 1) (pa_cons pe_str pa_nil))))
      pss_nil)
      (pss_cons (ps_if (pt_val (pe_fld (pv 0) rfl))
      (pss_one (ps_expr (pe_bm PySem.F.plainAttrs_list PySem.F.slot_list_append PySem.F.type_list_append mt_append (pv 1) (pa_cons pe_str pa_nil))))
      pss_nil)
      (pss_cons (ps_if (pt_val (pe_fld (pv 0) rfl))
      (pss_one (ps_expr (pe_bm PySem.F.plainAttrs_list PySem.F.slot_list_append PySem.F.type_list_append mt_append (pv 1) (pa_cons pe_str pa_nil))))
      pss_nil)
      (pss_cons (ps_if (pt_val (pe_fld (pv 0) rfl))
      (pss_one (ps_expr (pe_bm PySem.F.plainAttrs_list PySem.F.slot_list_append PySem.F.type_list_append mt_append (pv 1) (pa_cons pe_str pa_nil))))
      pss_nil)
      (pss_one (ps_ret (pe_join pe_str (pv 1))))))))))))), ?_⟩
    have c := c_Kind T
    refine sq_asg ⟨by show 0 ≤ sizeLine; decide, fun L hL => ?_⟩
    have I0 : Same H (upd H L (.lst [])) ∧ (upd H L (.lst [])) L = some (.lst (([] : List Wd).map fun x => V.str (wtx x))) := ⟨same_new hL, upd_same⟩
    generalize upd H L (.lst []) = H1 at I0
    have app : ∀ {ws : List Wd} {H2 : Hp} {x : Wd}, Same H H2 ∧ H2 L = some (.lst (ws.map fun x => V.str (wtx x))) → Same H (upd H2 L (.lst ((ws.map fun x => V.str (wtx x)) ++ [.str (wtx x)]))) ∧ (upd H2 L (.lst ((ws.map fun x => V.str (wtx x)) ++ [.str (wtx x)]))) L = some (.lst ((ws ++ [x]).map fun x => V.str (wtx x))) := fun {ws H2 x} h => ⟨same_mut h.1 hL, by rw [upd_same]; simp⟩
    have mk : ∀ {H2 : Hp}, Same H H2 → H2 a = some (.ins (He.ga K "Kind") dx (kdF kd)) := fun e => e _ _ ha
    have num : ∀ (i n : Nat), i < 4 → n < 4 → ∀ {ws : List Wd} {H2 : Hp} {f : Str} {Nx : L2.St → Hp → Prop} {D : Ends}, ws.length ≤ 5 → Same H H2 ∧ H2 L = some (.lst (ws.map fun x => V.str (wtx x))) → NoAttr K (He.ga K "Kind") f → (kdF kd).lookup f = some (.int (n : Nat)) →
        (∀ H3, Same H H3 ∧ H3 L = some (.lst ((ws ++ [Wd.num i n]).map fun x => V.str (wtx x))) → Nx [some (.ref a), some (.ref L)] H3) →
        tDrop (tBM K "list" rAppend (tVar 1) (tCons (fun σ H Q => tJs [tC (.str (pre i)), tFmt (tFld K (tVar 0) f)] Str.empty σ H fun out H1 => Q (.str out) H1) tNil)) { D with nx := Nx } [some (.ref a), some (.ref L)] H2 := fun i n hi hn {ws H2 f Nx D} hl h na hf hk => by
      obtain ⟨p1, p2, p3⟩ := pre_ok ⟨i, hi⟩ ⟨n, hn⟩
      refine ⟨_, rfl, .inl ⟨rfl, _, .of h.2⟩, _, rfl, Nat.le_trans (of_decide_eq_true p2) (by decide), ?_⟩
      refine ⟨_, rfl, a, _, dx, _, _, rfl, mk h.1, c, na, hf, .inr ⟨n, rfl, ?_, _, rfl, Nat.le_trans (of_decide_eq_true p3) (by decide), L, _, _, rfl, rfl, h.2, ?_, ?_⟩⟩
      · have : n = 0 ∨ n = 1 ∨ n = 2 ∨ n = 3 := by omega
        rcases this with rfl | rfl | rfl | rfl <;> decide
      · rw [List.length_map]; exact Nat.lt_of_le_of_lt hl (by decide)
      · refine hk _ ?_
        have := app (x := Wd.num i n) h
        rw [← p1] at this
        exact this
    have hM : ∀ {ws : List Wd} {H2 : Hp}, Same H H2 ∧ H2 L = some (.lst (ws.map fun x => V.str (wtx x))) → ∃ H3, H3 = H2 ∧ Same H H3 ∧ H3 L = some (.lst (ws.map fun x => V.str (wtx x))) := fun {ws H2} h => ⟨H2, rfl, h⟩
    let w0 : List Wd := [.num 0 kd.lasts]
    let w1 : List Wd := w0 ++ (match kd.shared with | some n => [.num 1 n] | none => [])
    let w2 : List Wd := w1 ++ (if 0 < kd.late then [.num 2 kd.late] else [])
    let w3 : List Wd := w2 ++ (if 0 < kd.onErr then [.num 3 kd.onErr] else [])
    let w4 : List Wd := w3 ++ (if kd.strict = true then [.strict] else [])
    have hw4 : w4 = wsK kd := rfl
    have l4 : w4.length ≤ 5 := wsK_len kd
    have l3 : w3.length ≤ 5 := Nat.le_trans (List.Sublist.length_le (List.sublist_append_left w3 _)) l4
    have l2 : w2.length ≤ 5 := Nat.le_trans (List.Sublist.length_le (List.sublist_append_left w2 _)) l3
    have l1 : w1.length ≤ 5 := Nat.le_trans (List.Sublist.length_le (List.sublist_append_left w1 _)) l2
    refine seqM (t := tIfS _ _ _) (fun σ H' => σ = [some (.ref a), some (.ref L)] ∧ Same H H' ∧ H' L = some (.lst (w0.map fun x => V.str (wtx x)))) (fun Nx hNx => ?_) ?_
    · refine ⟨_, rfl, a, _, dx, _, _, rfl, mk I0.1, c, n_Kind_lasts T, kdF_lasts kd, _, rfl, iteT ?_⟩
      exact num 0 kd.lasts (by decide) hok.1 (ws := []) (by decide) I0 (n_Kind_lasts T) (kdF_lasts kd) fun H3 h3 => hNx _ _ ⟨rfl, h3⟩
    rintro _ H2 ⟨rfl, h2⟩
    refine seqM (t := tIfS _ _ _) (fun σ H' => σ = [some (.ref a), some (.ref L)] ∧ Same H H' ∧ H' L = some (.lst (w1.map fun x => V.str (wtx x)))) (fun Nx hNx => ?_) ?_
    · refine ⟨_, rfl, a, _, dx, _, _, rfl, mk h2.1, c, n_Kind_shared_lasts T, kdF_shared kd, ?_⟩
      cases es : kd.shared with
      | none =>
        refine ⟨_, rfl, iteF (hNx _ _ ⟨rfl, ?_⟩)⟩
        have : w1 = w0 := by show w0 ++ (match kd.shared with | some n => [Wd.num 1 n] | none => []) = w0; rw [es, List.append_nil]
        rw [this]; exact h2
      | some n =>
        refine ⟨_, rfl, iteT ?_⟩
        refine num 1 n (by decide) (hok.2.1 n es) (ws := w0) (by show 1 ≤ 5; decide) h2 (n_Kind_shared_lasts T) (by rw [kdF_shared, es]; rfl) fun H3 h3 => hNx _ _ ⟨rfl, ?_⟩
        have : w1 = w0 ++ [Wd.num 1 n] := by show w0 ++ (match kd.shared with | some n => [Wd.num 1 n] | none => []) = _; rw [es]
        rw [this]; exact h3
    rintro _ H2 ⟨rfl, h2⟩
    refine seqM (t := tIfS _ _ _) (fun σ H' => σ = [some (.ref a), some (.ref L)] ∧ Same H H' ∧ H' L = some (.lst (w2.map fun x => V.str (wtx x)))) (fun Nx hNx => ?_) ?_
    · refine ⟨_, rfl, a, _, dx, _, _, rfl, mk h2.1, c, n_Kind_late T, kdF_late kd, _, _, rfl, rfl, _, rfl, ?_⟩
      by_cases cc : 0 < kd.late
      · have : w2 = w1 ++ [Wd.num 2 kd.late] := by show w1 ++ (if 0 < kd.late then [Wd.num 2 kd.late] else []) = _; rw [if_pos cc]
        refine iteTd (by omega) (num 2 kd.late (by decide) hok.2.2.1 (ws := w1) l1 h2 (n_Kind_late T) (kdF_late kd) fun H3 h3 => hNx _ _ ⟨rfl, ?_⟩)
        rw [this]; exact h3
      · have : w2 = w1 := by show w1 ++ (if 0 < kd.late then [Wd.num 2 kd.late] else []) = _; rw [if_neg cc, List.append_nil]
        refine iteFd (by omega) (hNx _ _ ⟨rfl, ?_⟩)
        rw [this]; exact h2
    rintro _ H2 ⟨rfl, h2⟩
    refine seqM (t := tIfS _ _ _) (fun σ H' => σ = [some (.ref a), some (.ref L)] ∧ Same H H' ∧ H' L = some (.lst (w3.map fun x => V.str (wtx x)))) (fun Nx hNx => ?_) ?_
    · refine ⟨_, rfl, a, _, dx, _, _, rfl, mk h2.1, c, n_Kind_on_error T, kdF_on kd, _, _, rfl, rfl, _, rfl, ?_⟩
      by_cases cc : 0 < kd.onErr
      · have : w3 = w2 ++ [Wd.num 3 kd.onErr] := by show w2 ++ (if 0 < kd.onErr then [Wd.num 3 kd.onErr] else []) = _; rw [if_pos cc]
        refine iteTd (by omega) (num 3 kd.onErr (by decide) hok.2.2.2 (ws := w2) l2 h2 (n_Kind_on_error T) (kdF_on kd) fun H3 h3 => hNx _ _ ⟨rfl, ?_⟩)
        rw [this]; exact h3
      · have : w3 = w2 := by show w2 ++ (if 0 < kd.onErr then [Wd.num 3 kd.onErr] else []) = _; rw [if_neg cc, List.append_nil]
        refine iteFd (by omega) (hNx _ _ ⟨rfl, ?_⟩)
        rw [this]; exact h2
    rintro _ H2 ⟨rfl, h2⟩
    refine seqM (t := tIfS _ _ _) (fun σ H' => σ = [some (.ref a), some (.ref L)] ∧ Same H H' ∧ H' L = some (.lst (w4.map fun x => V.str (wtx x)))) (fun Nx hNx => ?_) ?_
    · refine ⟨_, rfl, a, _, dx, _, _, rfl, mk h2.1, c, n_Kind_strict T, kdF_strict kd, ?_⟩
      cases es : kd.strict with
      | true =>
        have : w4 = w3 ++ [Wd.strict] := by show w3 ++ (if kd.strict = true then [Wd.strict] else []) = _; rw [if_pos es]
        refine ⟨_, rfl, iteT ⟨_, rfl, .inl ⟨rfl, _, .of h2.2⟩, L, _, _, rfl, rfl, h2.2, by rw [List.length_map]; exact Nat.lt_of_le_of_lt l3 (by decide), hNx _ _ ⟨rfl, ?_⟩⟩⟩
        rw [this]; exact app (x := Wd.strict) h2
      | false =>
        have : w4 = w3 := by show w3 ++ (if kd.strict = true then [Wd.strict] else []) = _; rw [if_neg (by rw [es]; decide), List.append_nil]
        refine ⟨_, rfl, iteF (hNx _ _ ⟨rfl, ?_⟩)⟩
        rw [this]; exact h2
    rintro _ H2 ⟨rfl, h2⟩
    refine ⟨_, rfl, a, _, dx, _, _, rfl, mk h2.1, c, n_Kind_check T, kdF_check kd, _, rfl, iteF ?_⟩
    refine ⟨_, rfl, a, _, dx, _, _, rfl, mk h2.1, c, n_Kind_own T, kdF_own kd, _, rfl, iteF ?_⟩
    refine ⟨_, rfl, a, _, dx, _, _, rfl, mk h2.1, c, n_Kind_never T, kdF_never kd, _, rfl, iteF ?_⟩
    refine ⟨⟨_, rfl⟩, _, rfl, _, L, w4.map wtx, rfl, rfl, .inl (.of (by rw [h2.2, List.map_map]; rfl)), ?_, k _ h2.1⟩
    have := lens_ok w4 (wsK_ok hok)
    rw [List.length_map]
    refine Nat.le_trans (m := 100 * 5 + 5 * 2) (Nat.add_le_add (Nat.le_trans this (Nat.mul_le_mul_left _ l4)) (Nat.mul_le_mul l4 (by decide))) (by decide)
theorem keep_words {kd : KindD} (h : kdOk kd) : tdw (some (keepText (wsK kd))) (wsK kd) := by
  have hok := wsK_ok h
  have hl := wsK_len kd
  have e : wsK kd = .num 0 kd.lasts :: (wsK kd).tail := rfl
  have he := elements_keep (.num 0 kd.lasts) (wsK kd).tail (by rw [← e]; exact hok)
  rw [← e] at he
  have hl100 : ∀ x ∈ wsK kd, (wtx x).length ≤ 100 := fun x hx => by
    have q := hok x hx
    cases x with
    | strict => exact of_decide_eq_true part_s.2.2
    | num i n => exact of_decide_eq_true (part_n ⟨i, q.1⟩ ⟨n, q.2⟩).2.2
  have hs := split_keep (.num 0 kd.lasts) (wsK kd).tail (by rw [← e]; exact hok)
  rw [← e] at hs
  refine ⟨⟨?_, ?_, ?_⟩, he⟩
  · have h1 : (keepText (wsK kd)).length ≤ (((wsK kd).map wtx).map (·.length)).sum + ((wsK kd).map wtx).length * (((", " : Str)).length) := by
      unfold keepText
      rw [TL.join_eq]
      exact StrLaws.join_length_le _ _
    have h2 := lens_ok (wsK kd) hok
    rw [List.length_map (as := wsK kd)] at h1
    have h3 : ((", " : Str)).length = 2 := by decide +kernel
    rw [h3] at h1
    omega
  · rw [hs]
    intro y hy
    rcases List.mem_cons.mp hy with h1 | h1
    · subst h1; exact Nat.le_trans (hl100 _ (by rw [e]; exact List.mem_cons_self ..)) (by decide)
    · obtain ⟨x, hx, rfl⟩ := List.mem_map.mp h1
      have := hl100 x (by rw [e]; exact List.mem_cons_of_mem _ hx)
      rw [Str.length_append]
      have h3 : ((" " : Str)).length = 1 := by decide +kernel
      omega
  · rw [hs, List.length_cons, List.length_map]
    have : (wsK kd).tail.length ≤ 5 := Nat.le_trans (by rw [List.length_tail]; omega) hl
    omega
theorem sc_kind_directives : FnScope ["kind"] ["kind"] (defScope s_kind_directives) := ⟨rfl, rfl, rfl, by decide +kernel, rfl, by decide +kernel, by decide +kernel⟩
def sp_kind_directives (K : PySem.W.Frag) : Sp := fun vs H Q _ => ∃ a kd, vs = [.ref a] ∧ KindAt K H a kd ∧ kdOk kd ∧ ∀ d H', Same H H' → DirAt K H' d (wsK kd) → Q (.ref d) H'
theorem ok_kind_directives (T : TT K mg) : Cal P w K mg base 8 "kind_directives" (sp_kind_directives K) [] := by
  refine cal_of (f_kind_directives T) (g_kind_directives T) sc_kind_directives (fun _ _ _ _ _ _ us hl => match us, hl with | [_], _ => rfl) (fun vs H Q E h => ?_) (fun cdv A outer s H vs Q E hr h => ?_)
  · obtain ⟨a, kd, rfl, ha, hok, k⟩ := h; rfl
  · obtain ⟨a, kd, rfl, ha, hok, k⟩ := h
    refine ⟨_, (pss_one (ps_ret (pe_smeth (pl := _) (pe_glob (v := .ref (He.ga K "Directives")) (by rfl) (g_Directives T) rfl) (ok_Directives_read T) hr (by decide) (pa_cons (pe_methSt0 (pl := _) (pv 0) (one_all (ok_Kind_keep_field T)) hr (by decide)) pa_nil)))), ?_⟩
    obtain ⟨dx, ha'⟩ := ha
    refine ⟨rfl, _, rfl, _, _, a, dx, _, ⟨rfl, rfl⟩, rfl, ha', kdF_keep kd, ⟨a, kd, rfl, ⟨dx, ha'⟩, hok, fun H1 e1 => ?_⟩⟩
    exact ⟨some (keepText (wsK kd)), wsK kd, rfl, keep_words hok, Nat.le_trans (wsK_len kd) (by decide), wsK_ok hok, wsK_once kd, fun d H2 e2 hd => k d H2 (e1.trans e2) hd⟩
end
end K98
set_option Elab.async false
set_option linter.all false
set_option maxRecDepth 100000
set_option maxHeartbeats 4000000
namespace K98
open PySem PySem.Spec PyProof.Rows L2 Ru He6 TL
open C8 (Cal pe_c)
theorem mkF_shared (m : MakeD) : (mkF m).lookup ("shared" : Str) = some (.bl m.shared) := by kernel_rfl
theorem mkF_grace (m : MakeD) : (mkF m).lookup ("grace" : Str) = some (.int m.grace) := by kernel_rfl
theorem mkF_checks (m : MakeD) : (mkF m).lookup ("checks" : Str) = some (.bl m.checks) := by kernel_rfl
theorem mkF_keeps (m : MakeD) : (mkF m).lookup ("keeps" : Str) = none := by kernel_rfl
theorem mkF_allow (m : MakeD) : (mkF m).lookup ("allowance" : Str) = none := by kernel_rfl
theorem mkF_life (m : MakeD) : (mkF m).lookup ("lifetime" : Str) = none := by kernel_rfl
theorem dirF_lasts (ws : List Wd) : (dirF ws).lookup ("lasts" : Str) = some (optV (getW ws 0)) := by kernel_rfl
theorem dirF_shared (ws : List Wd) : (dirF ws).lookup ("shared_lasts" : Str) = some (optV (getW ws 1)) := by kernel_rfl
theorem dirF_late (ws : List Wd) : (dirF ws).lookup ("late" : Str) = some (optV (getW ws 2)) := by kernel_rfl
theorem dirF_strict (ws : List Wd) : (dirF ws).lookup ("strict" : Str) = some (.bl (ws.contains .strict)) := by kernel_rfl
theorem dirF_check (ws : List Wd) : (dirF ws).lookup ("check" : Str) = some (.bl false) := by kernel_rfl
theorem dirF_own (ws : List Wd) : (dirF ws).lookup ("own" : Str) = some (.bl false) := by kernel_rfl
theorem dirF_never (ws : List Wd) : (dirF ws).lookup ("never" : Str) = some (.bl false) := by kernel_rfl
theorem dirF_any (ws : List Wd) : (dirF ws).lookup ("any_late" : Str) = some (.bl false) := by kernel_rfl
theorem getW_0 (k : KindD) : getW (wsK k) 0 = some k.lasts := by
  unfold wsK wordsOf getW
  cases k.shared <;> by_cases h1 : 0 < k.late <;> by_cases h2 : 0 < k.onErr <;> cases k.strict <;> simp [h1, h2]
theorem getW_1 (k : KindD) : getW (wsK k) 1 = k.shared := by
  unfold wsK wordsOf getW
  cases k.shared <;> by_cases h1 : 0 < k.late <;> by_cases h2 : 0 < k.onErr <;> cases k.strict <;> simp [h1, h2]
theorem getW_2 (k : KindD) : getW (wsK k) 2 = if 0 < k.late then some k.late else none := by
  unfold wsK wordsOf getW
  cases k.shared <;> by_cases h1 : 0 < k.late <;> by_cases h2 : 0 < k.onErr <;> cases k.strict <;> simp [h1, h2]
theorem str_K (k : KindD) : (wsK k).contains .strict = k.strict := by
  unfold wsK wordsOf
  cases k.shared <;> by_cases h1 : 0 < k.late <;> by_cases h2 : 0 < k.onErr <;> cases k.strict <;> simp [h1, h2]
def max3 (i j k : Int) : Int := if j > i then (if k > j then k else j) else (if k > i then k else i)
def lifeOf (m : MakeD) (k : KindD) : Int := if m.shared = true then (match k.shared with | some n => (n : Int) | none => k.lasts) else k.lasts
def allowOf (m : MakeD) (k : KindD) : Int := if m.tag = 1 then 0 else if k.strict = true then 0 else max3 m.grace k.late 0
def limOf (m : MakeD) (k : KindD) : Int := lifeOf m k + allowOf m k
section
variable {P : Program} {w : World} {K : PySem.W.Frag} {mg : Str → Option Value} {base : Heap}
theorem sc_tells_lifetime : FnScope ["make", "kind"] ["make", "kind"] (defScope s_tells_lifetime) := ⟨rfl, rfl, rfl, by decide +kernel, rfl, by decide +kernel, by decide +kernel⟩
def sp_tells_lifetime (K : PySem.W.Frag) : Sp := fun vs H Q _ => ∃ a b m k, vs = [.ref a, .ref b] ∧ MakeAt K H a m ∧ KindAt K H b k ∧ Q (.bl true) H
theorem ok_tells_lifetime (T : TT K mg) : Cal P w K mg base 1 "tells_lifetime" (sp_tells_lifetime K) [] := by
  refine cal_of (f_tells_lifetime T) (g_tells_lifetime T) sc_tells_lifetime (fun _ _ _ _ _ _ us hl => match us, hl with | [_, _], _ => rfl) (fun vs H Q E h => ?_) (fun cdv A outer s H vs Q E hr h => ?_)
  · obtain ⟨a, b, m, kd, rfl, hm, ⟨dx, hk⟩, k⟩ := h; rfl
  · obtain ⟨a, b, m, kd, rfl, hm, ⟨dx, hk⟩, k⟩ := h
    refine ⟨_, (pss_one (ps_ret (pe_or (pe_cmp (pc_notN (pe_fld (pv 1) rfl))) (pe_one (pe_and (pe_fld (pv 0) rfl) (pe_one (pe_cmp (pc_notN (pe_fld (pv 1) rfl))))))))), ?_⟩
    exact ⟨_, rfl, _, _, dx, _, _, rfl, hk, c_Kind T, n_Kind_lasts T, kdF_lasts kd, _, rfl, iteT k⟩
theorem sc_number_or_zero : FnScope ["number"] ["number"] (defScope s_number_or_zero) := ⟨rfl, rfl, rfl, by decide +kernel, rfl, by decide +kernel, by decide +kernel⟩
def sp_number_or_zero (K : PySem.W.Frag) : Sp := fun vs H Q _ => ∃ o, vs = [optV o] ∧ Q (.int ((o.getD 0 : Nat) : Int)) H
theorem ok_number_or_zero (T : TT K mg) : Cal P w K mg base 1 "number_or_zero" (sp_number_or_zero K) [] := by
  refine cal_of (f_number_or_zero T) (g_number_or_zero T) sc_number_or_zero (fun _ _ _ _ _ _ us hl => match us, hl with | [_], _ => rfl) (fun vs H Q E h => ?_) (fun cdv A outer s H vs Q E hr h => ?_)
  · obtain ⟨o, rfl, k⟩ := h; rfl
  · obtain ⟨o, rfl, k⟩ := h
    refine ⟨_, (pss_one (ps_ret (pe_ifExp (pt_cmp (pc_isN (pv 0))) pe_int (pv 0)))), ?_⟩
    cases o with
    | none => exact ⟨_, rfl, _, rfl, iteT k⟩
    | some n => exact ⟨_, rfl, _, rfl, iteF ⟨_, rfl, k⟩⟩
theorem sc_Make_keeps : FnScope ["self", "wish", "directives"] ["self", "wish", "directives"] (defScope s_Make_keeps) := ⟨rfl, rfl, rfl, by decide +kernel, rfl, by decide +kernel, by decide +kernel⟩
def sp_Make_keeps (K : PySem.W.Frag) : Sp := fun vs H Q _ => ∃ a b c w1 w2, vs = [.ref a, .ref b, .ref c] ∧ DirAt K H b w1 ∧ DirAt K H c w2 ∧ Q (.bl true) H
theorem ok_Make_keeps (T : TT K mg) (n : Nat) : MetS P w K mg base 1 (clsOf K n) "keeps" (sp_Make_keeps K) := by
  refine met_of (f_Make_keeps T) (cls_of T n) (me_keeps T n) sc_Make_keeps (fun _ _ _ _ _ _ us hl => match us, hl with | [_, _, _], _ => rfl) (fun vs H Q E h => ?_) (fun cdv A outer s H vs Q E hr h => ?_)
  · obtain ⟨a, b, c, w1, w2, rfl, ⟨dx, h1⟩, ⟨dy, h2⟩, k⟩ := h; rfl
  · obtain ⟨a, b, c, w1, w2, rfl, ⟨dx, h1⟩, ⟨dy, h2⟩, k⟩ := h
    refine ⟨_, (pss_cons (ps_if (PW.pt (pw_or (pt_val (pe_fld (pv 1) rfl)) (pw_or1 (pt_val (pe_fld (pv 2) rfl)))))
      (pss_one (ps_ret pe_bl))
      pss_nil)
      (pss_one (ps_ret (pe_not (pe_and (pe_fld (pv 2) rfl) (pe_one (pe_fld (pv 0) rfl))))))), ?_⟩
    refine ⟨_, rfl, _, _, _, _, _, rfl, h1, c_Directives T, n_Directives_never T, dirF_never w1, _, rfl, iteF ?_⟩
    refine ⟨_, rfl, _, _, _, _, _, rfl, h2, c_Directives T, n_Directives_never T, dirF_never w2, _, rfl, iteF ?_⟩
    exact ⟨_, rfl, _, _, _, _, _, rfl, h2, c_Directives T, n_Directives_own T, dirF_own w2, _, rfl, iteF ⟨_, rfl, k⟩⟩
theorem sc_Make_lifetime : FnScope ["self", "directives", "date", "changed", "unchanged_for"] ["self", "directives", "date", "changed"] (defScope s_Make_lifetime) := ⟨rfl, rfl, rfl, by decide +kernel, rfl, by decide +kernel, by decide +kernel⟩
def sp_Make_lifetime (K : PySem.W.Frag) : Sp := fun vs H Q _ => ∃ a b m kd, vs = [.ref a, .ref b, .non, .non] ∧ MakeAt K H a m ∧ DirAt K H b (wsK kd) ∧ Q (.int (lifeOf m kd)) H
theorem ok_Make_lifetime (T : TT K mg) (n : Nat) : MetS P w K mg base 1 (clsOf K n) "lifetime" (sp_Make_lifetime K) := by
  refine met_of (f_Make_lifetime T) (cls_of T n) (me_lifetime T n) sc_Make_lifetime (fun _ _ _ _ _ _ us hl => match us, hl with | [_, _, _, _], _ => rfl) (fun vs H Q E h => ?_) (fun cdv A outer s H vs Q E hr h => ?_)
  · obtain ⟨a, b, m, kd, rfl, ⟨dm, hm⟩, ⟨dx, hd⟩, k⟩ := h; rfl
  · obtain ⟨a, b, m, kd, rfl, ⟨dm, hm⟩, ⟨dx, hd⟩, k⟩ := h
    refine ⟨_, (pss_cons (ps_if (PW.pt (pw_and (pt_val (pe_fld (pv 0) rfl)) (pw_and1 (pt_cmp (pc_notN (pe_fld (pv 1) rfl))))))
      (pss_one (ps_ret (pe_fld (pv 1) rfl)))
      pss_nil)
      (pss_cons (ps_if (pt_cmp (pc_notN (pe_fld (pv 1) rfl)))
      (pss_one (ps_ret (pe_fld (pv 1) rfl)))
      pss_nil)
      (pss_cons ps_never
      (pss_cons ps_never
      (pss_one ps_never))))), ?_⟩
    have fl := dirF_lasts (wsK kd)
    have fs := dirF_shared (wsK kd)
    rw [getW_0] at fl
    rw [getW_1] at fs
    refine ⟨_, rfl, _, _, _, _, _, rfl, hm, cls_of T _, na_shared T _, mkF_shared m, ?_⟩
    have last : ∀ x, lifeOf m kd = x → x = (kd.lasts : Int) → ∃ v, (some (V.ref b)) = some v ∧ ∃ (a : Addr) (C dx : Addr) (fs : List (Str × V)) (u : V), v = .ref a ∧ H a = some (.ins C dx fs) ∧ Cls K C ∧ NoAttr K C ("lasts" : Str) ∧ fs.lookup ("lasts" : Str) = some u ∧ u = .int x := fun x _ e => by
      subst e
      exact ⟨_, rfl, _, _, _, _, _, rfl, hd, c_Directives T, n_Directives_lasts T, fl, rfl⟩
    cases e1 : m.shared with
    | true =>
      refine ⟨_, rfl, iteT ?_⟩
      refine ⟨_, rfl, _, _, _, _, _, rfl, hd, c_Directives T, n_Directives_shared_lasts T, fs, ?_⟩
      cases e2 : kd.shared with
      | some n =>
        refine ⟨_, rfl, iteT ⟨_, rfl, _, _, _, _, _, rfl, hd, c_Directives T, n_Directives_shared_lasts T, fs, ?_⟩⟩
        rw [e2]
        have : lifeOf m kd = (n : Int) := by simp [lifeOf, e1, e2]
        rw [this] at k
        exact k
      | none =>
        have : lifeOf m kd = (kd.lasts : Int) := by simp [lifeOf, e1, e2]
        rw [this] at k
        exact ⟨_, rfl, iteF ⟨_, rfl, _, _, _, _, _, rfl, hd, c_Directives T, n_Directives_lasts T, fl, _, rfl, iteT ⟨_, rfl, _, _, _, _, _, rfl, hd, c_Directives T, n_Directives_lasts T, fl, k⟩⟩⟩
    | false =>
      have : lifeOf m kd = (kd.lasts : Int) := by simp [lifeOf, e1]
      rw [this] at k
      exact ⟨_, rfl, iteF (iteF ⟨_, rfl, _, _, _, _, _, rfl, hd, c_Directives T, n_Directives_lasts T, fl, _, rfl, iteT ⟨_, rfl, _, _, _, _, _, rfl, hd, c_Directives T, n_Directives_lasts T, fl, k⟩⟩)⟩
theorem sc_StrictMake_allowance : FnScope ["self", "wish", "directives"] ["self", "wish", "directives"] (defScope s_StrictMake_allowance) := ⟨rfl, rfl, rfl, by decide +kernel, rfl, by decide +kernel, by decide +kernel⟩
def sp_StrictMake_allowance (K : PySem.W.Frag) : Sp := fun vs H Q _ => ∃ a b c m kd, vs = [.ref a, .ref b, .ref c] ∧ MakeAt K H a m ∧ m.tag = 1 ∧ DirAt K H b [] ∧ DirAt K H c (wsK kd) ∧ Q (.int (allowOf m kd)) H
theorem ok_StrictMake_allowance (T : TT K mg) : MetS P w K mg base 1 (He.ga K "StrictMake") "allowance" (sp_StrictMake_allowance K) := by
  refine met_of (f_StrictMake_allowance T) (c_StrictMake T) (m_StrictMake_allowance T) sc_StrictMake_allowance (fun _ _ _ _ _ _ us hl => match us, hl with | [_, _, _], _ => rfl) (fun vs H Q E h => ?_) (fun cdv A outer s H vs Q E hr h => ?_)
  · obtain ⟨a, b, c, m, kd, rfl, hm, ht, h1, h2, k⟩ := h; rfl
  · obtain ⟨a, b, c, m, kd, rfl, hm, ht, h1, h2, k⟩ := h
    refine ⟨_, (pss_one (ps_ret pe_int)), ?_⟩
    rw [allowOf, if_pos ht] at k
    exact k
theorem me_allow (T : TT K mg) : ∀ n, n ≠ 1 → Meth K (clsOf K n) "allowance" (He.ma K (He.ga K "Make") "allowance")
  | 0, _ => m_Make_allowance T
  | 1, h => absurd rfl h
  | _ + 2, _ => of_decide_eq_true (x_15 T) ▸ m_OwnMake_allowance T
theorem sc_Make_allowance : FnScope ["self", "wish", "directives"] ["self", "wish", "directives"] (defScope s_Make_allowance) := ⟨rfl, rfl, rfl, by decide +kernel, rfl, by decide +kernel, by decide +kernel⟩
def sp_Make_allowance (K : PySem.W.Frag) : Sp := fun vs H Q _ => ∃ a b c m kd, vs = [.ref a, .ref b, .ref c] ∧ MakeAt K H a m ∧ m.tag ≠ 1 ∧ DirAt K H b [] ∧ DirAt K H c (wsK kd) ∧ Q (.int (allowOf m kd)) H
theorem ok_Make_allowance (T : TT K mg) (n : Nat) (hn : n ≠ 1) : MetS P w K mg base 2 (clsOf K n) "allowance" (sp_Make_allowance K) := by
  refine met_of (f_Make_allowance T) (cls_of T n) (me_allow T n hn) sc_Make_allowance (fun _ _ _ _ _ _ us hl => match us, hl with | [_, _, _], _ => rfl) (fun vs H Q E h => ?_) (fun cdv A outer s H vs Q E hr h => ?_)
  · obtain ⟨a, b, c, m, kd, rfl, ⟨dm, hm⟩, ht, ⟨dx, h1⟩, ⟨dy, h2⟩, k⟩ := h; rfl
  · obtain ⟨a, b, c, m, kd, rfl, ⟨dm, hm⟩, ht, ⟨dx, h1⟩, ⟨dy, h2⟩, k⟩ := h
    refine ⟨_, (pss_cons (ps_if (pt_val (pe_fld (pv 2) rfl))
      (pss_one (ps_ret pe_int))
      pss_nil)
      (pss_cons (ps_if (PW.pt (pw_or (pt_cmp (pc_isN (pe_fld (pv 0) rfl))) (pw_or1 (pt_val (pe_fld (pv 1) rfl)))))
      (pss_one (ps_ret pe_non))
      pss_nil)
      (pss_one (ps_ret (pe_callB (call_max3 rfl) (by rfl) (b_max T) (by decide +kernel) (pa_cons (pe_fld (pv 0) rfl) (pa_cons (pe_c (ok_number_or_zero T) hr (by decide) (by rfl) (pa_cons (pe_fld (pv 2) rfl) pa_nil)) (pa_cons (pe_c (ok_number_or_zero T) hr (by decide) (by rfl) (pa_cons (pe_fld (pv 1) rfl) pa_nil)) pa_nil)))))))), ?_⟩
    have fstr := dirF_strict (wsK kd)
    rw [str_K] at fstr
    have flate := dirF_late (wsK kd)
    rw [allowOf, if_neg ht] at k
    refine ⟨_, rfl, _, _, _, _, _, rfl, h2, c_Directives T, n_Directives_strict T, fstr, ?_⟩
    cases e1 : kd.strict with
    | true =>
      rw [e1] at k
      exact ⟨_, rfl, iteT k⟩
    | false =>
      rw [e1] at k
      refine ⟨_, rfl, iteF ?_⟩
      refine ⟨_, rfl, _, _, _, _, _, rfl, hm, cls_of T _, na_grace T _, mkF_grace m, _, rfl, iteF ?_⟩
      refine ⟨_, rfl, _, _, _, _, _, rfl, h1, c_Directives T, n_Directives_any_late T, dirF_any [], _, rfl, iteF ?_⟩
      refine ⟨_, rfl, _, _, _, _, _, rfl, hm, cls_of T _, na_grace T _, mkF_grace m, ?_⟩
      refine ⟨_, rfl, _, _, _, _, _, rfl, h2, c_Directives T, n_Directives_late T, flate, getW (wsK kd) 2, rfl, ?_⟩
      refine ⟨_, rfl, _, _, _, _, _, rfl, h1, c_Directives T, n_Directives_late T, dirF_late [], none, rfl, ?_⟩
      refine ⟨_, _, _, rfl, ?_⟩
      have e2 : (((getW (wsK kd) 2).getD 0 : Nat) : Int) = kd.late := by
        rw [getW_2]
        by_cases h : 0 < kd.late
        · simp [h]
        · simp [h]; omega
      rw [e2]
      exact k
end
end K98
set_option Elab.async false
set_option linter.all false
set_option maxRecDepth 100000
set_option maxHeartbeats 4000000
namespace K98
open PySem PySem.Spec PyProof.Rows L2 Ru He6 TL
open C8 (Cal pe_c)
abbrev AllS (K : PySem.W.Frag) : Addr → Sp → Prop := fun C sp => (C = clsOf K 1 ∧ sp = sp_StrictMake_allowance K) ∨ ∃ n, n ≠ 1 ∧ C = clsOf K n ∧ sp = sp_Make_allowance K
section
variable {P : Program} {w : World} {K : PySem.W.Frag} {mg : Str → Option Value} {base : Heap}
theorem all_all (T : TT K mg) : ∀ C sp, AllS K C sp → MetS P w K mg base 2 C "allowance" sp := fun C sp h => by
  rcases h with ⟨rfl, rfl⟩ | ⟨n, hn, rfl, rfl⟩
  · obtain ⟨f, fd, ps, h1, h2, h3, h4⟩ := (ok_StrictMake_allowance (P := P) (w := w) (base := base) T).ex
    exact ⟨f, fd, ps, h1, h2, h3.mono (by decide), h4⟩
  · exact ok_Make_allowance T n hn
theorem sc_serve_limit : FnScope ["make", "kind", "on_error", "wish", "directives", "extra"] ["make", "kind", "on_error"] (defScope s_serve_limit) := ⟨rfl, rfl, rfl, by decide +kernel, rfl, by decide +kernel, by decide +kernel⟩
def sp_serve_limit (K : PySem.W.Frag) : Sp := fun vs H Q _ => ∃ a b m kd, vs = [.ref a, .ref b, .bl false] ∧ MakeAt K H a m ∧ KindAt K H b kd ∧ kdOk kd ∧ ∀ H', Same H H' → Q (.int (limOf m kd)) H'
theorem ok_serve_limit (T : TT K mg) : FnK P w K mg base 9 "serve_limit" s_serve_limit [(("on_error":Str),V.bl false)] ["make", "kind", "on_error"] (sp_serve_limit K) := by
  refine fnk_of (f_serve_limit T) (g_serve_limit T) sc_serve_limit (fun vs H Q E h => ?_) (fun cdv A outer s H vs Q E hr h => ?_)
  · obtain ⟨a, b, m, kd, rfl, ⟨dm, hm⟩, hk, hok, k⟩ := h; rfl
  · obtain ⟨a, b, m, kd, rfl, ⟨dm, hm⟩, hk, hok, k⟩ := h
    refine ⟨_, (pss_cons (ps_if (pt_not (pt_val (pe_c (ok_tells_lifetime T) hr (by decide) (by rfl) (pa_cons (pv 0) (pa_cons (pv 1) pa_nil)))))
      (pss_one ps_never)
      pss_nil)
      (pss_cons (ps_set (i := 3) sc_serve_limit.nd rfl (.inl rfl) (pe_smeth (pl := _) (pe_glob (v := .ref (He.ga K "Directives")) (by rfl) (g_Directives T) rfl) (ok_Directives_read T) hr (by decide) (pa_cons pe_non pa_nil)))
      (pss_cons (ps_set (i := 4) sc_serve_limit.nd rfl (.inl rfl) (pe_c (ok_kind_directives T) hr (by decide) (by rfl) (pa_cons (pv 1) pa_nil)))
      (pss_cons (ps_if (PW.pt (pw_or (pt_val (pe_fld (pv 4) rfl)) (pw_or1 (pt_not (pt_val (pe_methSt (pl := _) (pv 0) (mk_all (ok_Make_keeps T)) hr (by decide) (pa_cons (pv 3) (pa_cons (pv 4) pa_nil))))))))
      (pss_one (ps_ret pe_int))
      pss_nil)
      (pss_cons (ps_if (pt_val (pv 2))
      (pss_one ps_never)
      (pss_one (ps_set (i := 5) sc_serve_limit.nd rfl (.inl rfl) (pe_methSt (pl := _) (pv 0) (all_all T) hr (by decide) (pa_cons (pv 3) (pa_cons (pv 4) pa_nil))))))
      (pss_cons (ps_if (pt_cmp (pc_isN (pv 5)))
      (pss_one (ps_ret pe_non))
      pss_nil)
      (pss_one (ps_ret (pe_op op_add (pe_methSt (pl := _) (pv 0) (mk_all (ok_Make_lifetime T)) hr (by decide) (pa_cons (pv 4) (pa_cons pe_non (pa_cons pe_non pa_nil)))) (pv 5)))))))))), ?_⟩
    refine ⟨_, rfl, _, rfl, a, b, m, kd, rfl, ⟨dm, hm⟩, hk, _, rfl, iteF ?_⟩
    refine ⟨rfl, none, [], rfl, rfl, by decide, (fun _ h => by cases h), (fun a b i n m h1 h2 => by cases h2), fun d1 H1 e1 hd1 => ?_⟩
    refine ⟨_, rfl, b, kd, rfl, hk.mono e1, hok, fun d2 H2 e2 hd2 => ?_⟩
    have hd1' : DirAt K H2 d1 [] := let ⟨dx, h⟩ := hd1; ⟨dx, e2 _ _ h⟩
    have hm2 := e2 _ _ (e1 _ _ hm)
    obtain ⟨dy, hy⟩ := id hd2
    refine ⟨_, rfl, _, _, dy, _, _, rfl, hy, c_Directives T, n_Directives_check T, dirF_check _, _, rfl, iteF ?_⟩
    refine ⟨_, rfl, _, _, a, dm, mkF m, ⟨_, rfl, rfl⟩, rfl, hm2, mkF_keeps m, _, rfl, _, rfl, a, d1, d2, [], wsK kd, rfl, hd1', hd2, _, rfl, iteF ?_⟩
    refine ⟨_, rfl, _, rfl, iteF ?_⟩
    have fin : tSeq (tIfS (tB (tIsN (tVar 5))) (tRet (tC V.non)) tNext) (tRet (tOp (rI0 fun i j => V.int (i + j)) (tMethS (MkS K (sp_Make_lifetime K)) "lifetime" (tVar 0) (tCons (tVar 4) (tCons (tC V.non) (tCons (tC V.non) tNil)))) (tVar 5)))
        { nx := fun x H' => Q V.non H', rt := Q } [some (.ref a), some (.ref b), some (.bl false), some (.ref d1), some (.ref d2), some (.int (allowOf m kd))] H2 := by
      refine ⟨_, rfl, _, rfl, iteF ?_⟩
      refine ⟨_, rfl, _, _, a, dm, mkF m, ⟨_, rfl, rfl⟩, rfl, hm2, mkF_life m, _, rfl, a, d2, m, kd, rfl, ⟨dm, hm2⟩, hd2, _, rfl, _, _, rfl, rfl, k _ (e1.trans e2)⟩
    by_cases ht : m.tag = 1
    · have hc : clsOf K m.tag = clsOf K 1 := by rw [ht]
      exact ⟨_, rfl, _, _, a, dm, mkF m, .inl ⟨hc, rfl⟩, rfl, hm2, mkF_allow m, _, rfl, _, rfl, a, d1, d2, m, kd, rfl, ⟨dm, hm2⟩, ht, hd1', hd2, fin⟩
    · exact ⟨_, rfl, _, _, a, dm, mkF m, .inr ⟨m.tag, ht, rfl, rfl⟩, rfl, hm2, mkF_allow m, _, rfl, _, rfl, a, d1, d2, m, kd, rfl, ⟨dm, hm2⟩, ht, hd1', hd2, fin⟩
theorem cn_serve_limit (T : TT K mg) : CalK P w K mg base 9 "serve_limit" 2 ["on_error"] (fun vs zs => vs ++ zs) (sp_serve_limit K) :=
  (ok_serve_limit T).cal 2 ["on_error"] (fun us ws => us ++ ws) (by simp) (fun r1 r2 => r1.append r2) fun D doc pm an cdv ct us ws l1 l2 => match us, ws, l1, l2 with | [_, _], [_], _, _ => rfl
/-! ### settings -/
structure SetD where
  makes : List MakeD
  kind : KindD
def ClockAt (K : PySem.W.Frag) (H : Hp) (a : Addr) : Prop := ∃ dx, H a = some (.ins (He.ga K "Clock") dx [("behind", .int 0), ("ahead", .int 0)])
theorem ckF_1 : ([("behind", V.int 0), ("ahead", .int 0)] : List (Str × V)).lookup ("behind" : Str) = some (.int 0) := by kernel_rfl
theorem ckF_2 : ([("behind", V.int 0), ("ahead", .int 0)] : List (Str × V)).lookup ("ahead" : Str) = some (.int 0) := by kernel_rfl
def stF (pm pk pc pd : Addr) : List (Str × V) := [("makes", .ref pm), ("kind", .ref pk), ("clocks", .ref pc), ("delays", .ref pd), ("loses", .bl false)]
theorem stF_makes {a b c d : Addr} : (stF a b c d).lookup ("makes" : Str) = some (.ref a) := by kernel_rfl
theorem stF_kind {a b c d : Addr} : (stF a b c d).lookup ("kind" : Str) = some (.ref b) := by kernel_rfl
theorem stF_clocks {a b c d : Addr} : (stF a b c d).lookup ("clocks" : Str) = some (.ref c) := by kernel_rfl
theorem stF_delays {a b c d : Addr} : (stF a b c d).lookup ("delays" : Str) = some (.ref d) := by kernel_rfl
theorem stF_loses {a b c d : Addr} : (stF a b c d).lookup ("loses" : Str) = some (.bl false) := by kernel_rfl
structure SetAt' (K : PySem.W.Frag) (H : Hp) (s : SetD) (a dx pm pk pc pd : Addr) (ms cs : List Addr) (nd : Nat) : Prop where
  ob : H a = some (.ins (He.ga K "Setting") dx (stF pm pk pc pd))
  mks : SqL K H pm (ms.map V.ref)
  ml : ms.length = s.makes.length
  mat : ∀ (i : Nat) (m : MakeD), s.makes[i]? = some m → ∃ am, ms[i]? = some am ∧ MakeAt K H am m
  kat : KindAt K H pk s.kind
  ck : SqL K H pc (cs.map V.ref)
  cl : 1 ≤ cs.length ∧ cs.length ≤ 100
  cat : ∀ c ∈ cs, ClockAt K H c
  dl : SqL K H pd (List.replicate nd (V.int 0))
  dln : nd ≤ 100
def SetAt (K : PySem.W.Frag) (H : Hp) (a : Addr) (s : SetD) : Prop := ∃ dx pm pk pc pd ms cs nd, SetAt' K H s a dx pm pk pc pd ms cs nd
theorem SetAt'.mono {H H' : Hp} {s : SetD} {a dx pm pk pc pd : Addr} {ms cs : List Addr} {nd : Nat} (e : Same H H') (h : SetAt' K H s a dx pm pk pc pd ms cs nd) : SetAt' K H' s a dx pm pk pc pd ms cs nd :=
  ⟨e _ _ h.ob, Evl.ex_l e h.mks, h.ml, fun i m hi => let ⟨am, h1, dx, h2⟩ := h.mat i m hi; ⟨am, h1, dx, e _ _ h2⟩, h.kat.mono e, Evl.ex_l e h.ck, h.cl, fun c hc => let ⟨dx, h1⟩ := h.cat c hc; ⟨dx, e _ _ h1⟩, Evl.ex_l e h.dl, h.dln⟩
theorem SetAt.mono {H H' : Hp} {s : SetD} {a : Addr} (e : Same H H') : SetAt K H a s → SetAt K H' a s := fun ⟨dx, pm, pk, pc, pd, ms, cs, nd, h⟩ => ⟨dx, pm, pk, pc, pd, ms, cs, nd, h.mono e⟩
def lims (s : SetD) : List Int := s.makes.map fun m => limOf m s.kind
def SetOk (s : SetD) : Prop := 1 ≤ s.makes.length ∧ s.makes.length ≤ 20 ∧ kdOk s.kind ∧ ((∀ m ∈ s.makes, m.checks = false) ∨ (s.kind.mark ≠ "weak" ∧ ¬ (s.kind.mark = "none" ∧ s.kind.dated = true ∧ s.kind.margin = 0)))
theorem sc_Clock_span : FnScope ["self"] ["self"] (defScope s_Clock_span) := ⟨rfl, rfl, rfl, by decide +kernel, rfl, by decide +kernel, by decide +kernel⟩
def sp_Clock_span (K : PySem.W.Frag) : Sp := fun vs H Q _ => ∃ a, vs = [.ref a] ∧ ClockAt K H a ∧ Q (.int 0) H
theorem ok_Clock_span (T : TT K mg) : PropS P w K mg base 1 (He.ga K "Clock") "span" (sp_Clock_span K) := by
  refine prop_of (f_Clock_span T) (c_Clock T) (x_4 T) sc_Clock_span (fun _ _ _ _ _ _ us hl => match us, hl with | [_], _ => rfl) (fun vs H Q E h => ?_) (fun cdv A outer s H vs Q E hr h => ?_)
  · obtain ⟨a, rfl, ⟨dx, h⟩, k⟩ := h; rfl
  · obtain ⟨a, rfl, ⟨dx, h⟩, k⟩ := h
    refine ⟨_, (pss_one (ps_ret (pe_op op_add (pe_fld (pv 0) rfl) (pe_fld (pv 0) rfl)))), ?_⟩
    exact ⟨_, rfl, _, _, dx, _, _, rfl, h, c_Clock T, n_Clock_behind T, ckF_1, _, rfl, _, _, dx, _, _, rfl, h, c_Clock T, n_Clock_ahead T, ckF_2, _, _, rfl, rfl, k⟩
theorem sc_Setting_hops : FnScope ["self"] ["self"] (defScope s_Setting_hops) := ⟨rfl, rfl, rfl, by decide +kernel, rfl, by decide +kernel, by decide +kernel⟩
def sp_Setting_hops (K : PySem.W.Frag) : Sp := fun vs H Q _ => ∃ a s, vs = [.ref a] ∧ SetAt K H a s ∧ Q (.int (s.makes.length : Nat)) H
theorem ok_Setting_hops (T : TT K mg) : PropS P w K mg base 1 (He.ga K "Setting") "hops" (sp_Setting_hops K) := by
  refine prop_of (f_Setting_hops T) (c_Setting T) (x_5 T) sc_Setting_hops (fun _ _ _ _ _ _ us hl => match us, hl with | [_], _ => rfl) (fun vs H Q E h => ?_) (fun cdv A outer s H vs Q E hr h => ?_)
  · obtain ⟨a, s, rfl, ⟨dx, pm, pk, pc, pd, ms, cs, nd, h⟩, k⟩ := h; rfl
  · obtain ⟨a, s, rfl, ⟨dx, pm, pk, pc, pd, ms, cs, nd, h⟩, k⟩ := h
    refine ⟨_, (pss_one (ps_ret (pe_callB call_len_seq (by rfl) (b_len T) PySem.boot_len (pa_cons (pe_fld (pv 0) rfl) pa_nil)))), ?_⟩
    refine ⟨_, rfl, _, _, dx, _, _, rfl, h.ob, c_Setting T, n_Setting_makes T, stF_makes, pm, _, rfl, .inl h.mks, ?_⟩
    rw [List.length_map, h.ml]
    exact k
theorem sc_limits : FnScope ["setting", "make"] ["setting"] (defScope s_limits) := ⟨rfl, rfl, rfl, by decide +kernel, rfl, by decide +kernel, by decide +kernel⟩
def sp_limits (K : PySem.W.Frag) : Sp := fun vs H Q _ => ∃ a s, vs = [.ref a] ∧ SetAt K H a s ∧ SetOk s ∧ ∀ L H', Same H H' → H L = none → H' L = some (.lst ((lims s).map V.int)) → Q (.ref L) H'
theorem ok_limits (T : TT K mg) : Cal P w K mg base 10 "limits" (sp_limits K) [] := by
  refine cal_of (f_limits T) (g_limits T) sc_limits (fun _ _ _ _ _ _ us hl => match us, hl with | [_], _ => rfl) (fun vs H Q E h => ?_) (fun cdv A outer s H vs Q E hr h => ?_)
  · obtain ⟨a, s, rfl, ⟨dx, pm, pk, pc, pd, ms, cs, nd, h⟩, hok, k⟩ := h; rfl
  · obtain ⟨a, s, rfl, ⟨dx, pm, pk, pc, pd, ms, cs, nd, h⟩, hok, k⟩ := h
    refine ⟨_, (pss_one (ps_ret (pe_lc (own := [("make", 1)]) (g := (gName 1)) (tt := tYes) rfl sc_limits.nd (pi_list (pe_fld (pv 0) rfl)) (blkOk_by (own := [("make", 1)]) (N := ["setting", "make"]) (sc := defScope s_limits) (by decide +kernel)) (fun _ _ _ _ _ => (pg_name (i := 1) sc_limits.nd rfl (.inl rfl))) (fun _ _ _ _ _ => pts_nil) (fun _ _ _ _ _ => (pe_cK (cn_serve_limit T) hr (by decide) (by rfl) (pa_cons (pv 1) (pa_cons (pe_fldK (K := K) rfl (pv 0) rfl) pa_nil)) (pk_cons (pe_fldK (K := K) rfl (pv 0) rfl) pk_nil)))))), ?_⟩
    refine ⟨_, rfl, _, _, dx, _, _, rfl, h.ob, c_Setting T, n_Setting_makes T, stF_makes, pm, rfl, ⟨_, h.mks⟩, fun D hD => ?_⟩
    refine lc_mapR (walk_list (xs := ms.map V.ref)) (fun i v _ => ∃ m, s.makes[i]? = some m ∧ v = .int (limOf m s.kind)) (fun i v _ _ _ r => r) (by rw [List.length_map, h.ml]; exact Nat.le_trans hok.2.1 (by decide)) hD (fun H' e => Evl.ex_l e h.mks) ?_ ?_
    · rintro i x H1 H2 Z hi e ⟨rfl, hx⟩ kz
      have hi2 : i < s.makes.length := by rw [← h.ml]; simpa using hi
      have h2 := h.mono e
      obtain ⟨am, q1, q2⟩ := h2.mat i s.makes[i] (List.getElem?_eq_getElem hi2)
      rw [List.getElem?_map, q1] at hx
      cases hx
      refine ⟨rfl, _, rfl, _, rfl, _, _, dx, _, _, rfl, h2.ob, c_Setting T, n_Setting_kind T, stF_kind, ?_⟩
      refine ⟨_, rfl, _, _, dx, _, _, rfl, h2.ob, c_Setting T, n_Setting_loses T, stF_loses, rfl, rfl, ?_⟩
      exact ⟨am, pk, s.makes[i], s.kind, rfl, q2, h2.kat, hok.2.2.1, fun H3 e3 => kz _ _ ⟨_, List.getElem?_eq_getElem hi2, rfl⟩ e3⟩
    · intro H1 acc e hDacc hlacc hR
      have := acc_eq (xs := s.makes) (g := fun m => V.int (limOf m s.kind)) (by rw [hlacc, List.length_map, h.ml]) hR
      subst this
      exact k D H1 e hD (by rw [hDacc]; simp [lims, Function.comp_def])
end
end K98
set_option Elab.async false
set_option linter.all false
set_option maxRecDepth 100000
set_option maxHeartbeats 4000000
/-! list(zip(a, b)), after the library's list(d.items()) -/
namespace Zl
open PySem PySem.W PySem.Calls PyProof.Rows PyProof.V PySem.Spec
open Sem (wp)
theorem zip_no_len : typeLookup (.type "zip") "__len__" = pure none := am_miss_of_fast (by decide +kernel)
theorem zip_no_hint : typeLookup (.type "zip") "__length_hint__" = pure none := am_miss_of_fast (by decide +kernel)
section
variable {prog : Program} {w : World} {A : Around} {E : Value → Shared → Prop} {s : Shared}
theorem hint_zip {r : Addr} (hT : s.TypeIs (.ref r) "zip") {Q : Bool → Shared → Prop} (h : Q true s) : wpAny (model prog w) A (Builtin.List.listLengthHint (.ref r)) Q E s := by
  unfold Builtin.List.listLengthHint
  refine wpAny_bind (wpAny_specialOf hT zip_no_len ?_)
  refine wpAny_ite_split (fun hab => absurd hab (by decide)) (fun _ => ?_)
  refine wpAny_ite_split (fun hab => absurd hab (by decide)) (fun _ => ?_)
  refine wpAny_bind (wpAny_specialOf hT zip_no_hint ?_)
  exact wpAny_pure h
end
/-- the pairs at the addresses as -/
structure G (xs ys : Array Value) (h : Heap) (lo : Addr) (as : List Addr) : Prop where
  rise : as.Pairwise (· < ·)
  above : ∀ a ∈ as, lo ≤ a
  pairs : ∀ (j : Nat) (a : Addr), as[j]? = some a → ∃ x y, xs[j]? = some x ∧ ys[j]? = some y ∧ IsPair h a x y
theorem G.there {xs ys : Array Value} {h : Heap} {lo : Addr} {as : List Addr} (g : G xs ys h lo as) {a : Addr} (ha : a ∈ as) : a < h.objs.size := by
  obtain ⟨j, hj⟩ := List.mem_iff_getElem?.mp ha
  obtain ⟨_, _, _, _, e⟩ := g.pairs j a hj
  exact Heap.lt_size e
structure St (xs ys : Array Value) (z TI TO i1 i2 l1 l2 S : Addr) (i : Nat) (h : Heap) : Prop where
  hTI : IsPair h TI (.ref i1) (.ref i2)
  h1 : h.IsListIter i1 l1 i
  h2 : h.IsListIter i2 l2 i
  hl1 : h.IsList l1 xs
  hl2 : h.IsList l2 ys
  hz : (IsZip h z TI TO .none ∧ ∃ a b, IsPair h TO a b) ∨ ∃ T f oT, IsZipHeld h z TI TO T f ∧ h.get? T = some oT ∧ T ≠ z ∧ T ≠ i1 ∧ T ≠ i2 ∧ T ≠ S
section
variable {prog : Program} {w : World} {A : Around} {s : Shared} {R : Result → Shared → Prop} {xs ys : Array Value} {z TI TO i1 i2 l1 l2 S : Addr}
theorem St.keep {i : Nat} {h h' : Heap} (st : St xs ys z TI TO i1 i2 l1 l2 S i h) (k : ∀ b o, b ≠ S → h.get? b = some o → h'.get? b = some o) (n : z ≠ S ∧ TI ≠ S ∧ TO ≠ S ∧ i1 ≠ S ∧ i2 ≠ S ∧ l1 ≠ S ∧ l2 ≠ S) : St xs ys z TI TO i1 i2 l1 l2 S i h' := by
  obtain ⟨n1, n2, n3, n4, n5, n6, n7⟩ := n
  refine ⟨k _ _ n2 st.hTI, st.h1.at fun o e => k _ o n4 e, st.h2.at fun o e => k _ o n5 e, st.hl1.at fun o e => k _ o n6 e, st.hl2.at fun o e => k _ o n7 e, ?_⟩
  rcases st.hz with ⟨hz, a, b, hTO⟩ | ⟨T, f, oT, hz, hT, t1, t2, t3, t4⟩
  · exact .inl ⟨k _ _ n1 hz, a, b, k _ _ n3 hTO⟩
  · exact .inr ⟨T, f, oT, k _ _ n1 hz, k _ _ t4 hT, t1, t2, t3, t4⟩
theorem item {E : Value → Shared → Prop} {i : Nat} {x y : Value} {Q : Option Value → Shared → Prop} (D : ZipApart z TI TO i1 i2 l1 l2) (st : St xs ys z TI TO i1 i2 l1 l2 S i s.heap) (hS : S < s.heap.objs.size) (hx : xs[i]? = some x) (hy : ys[i]? = some y)
    (hQ : ∀ h', St xs ys z TI TO i1 i2 l1 l2 S (i + 1) h' → IsPair h' s.heap.objs.size x y → h'.objs.size = s.heap.objs.size + 1 → (∀ c o, c ≠ z → c ≠ TO → c ≠ i1 → c ≠ i2 → s.heap.get? c = some o → h'.get? c = some o) →
      Q (some (.ref s.heap.objs.size)) { s with heap := h' }) : wpAny (model prog w) A (pyNext (.ref z)) Q E s := by
  have lt : ∀ {c : Addr} {o : Obj}, s.heap.get? c = some o → s.heap.objs.size ≠ c := fun e => Nat.ne_of_gt (Heap.lt_size e)
  have li1 : s.heap.objs.size ≠ i1 := let ⟨o, e, _⟩ := st.h1; lt e
  have li2 : s.heap.objs.size ≠ i2 := let ⟨o, e, _⟩ := st.h2; lt e
  rcases st.hz with ⟨hz, a, b, hTO⟩ | ⟨T, f, oT, hz, hT, t1, t2, t3, t4⟩
  · refine wpAny_pyNext_zip_item D hz st.hTI hTO st.h1 st.h2 st.hl1 st.hl2 hx hy fun h' a1 a2 a3 a4 a5 a6 a7 => hQ h' ⟨?_, a3, a4, ?_, ?_, .inr ⟨_, false, _, a1, a5, lt hz, li1, li2, Nat.ne_of_gt hS⟩⟩ a5 a6 a7
    · exact a7 _ _ D.TIz D.TITO D.TIi1 D.TIi2 st.hTI
    · exact st.hl1.at fun o e => a7 _ o D.l1z D.l1TO D.l1i1 D.l1i2 e
    · exact st.hl2.at fun o e => a7 _ o D.l2z D.l2TO D.l2i1 D.l2i2 e
  · refine wpAny_pyNext_zip_item_held D hz hT st.hTI st.h1 st.h2 st.hl1 st.hl2 hx hy fun h' a1 a3 a4 a5 a6 a7 => hQ h' ⟨?_, a3, a4, ?_, ?_, .inr ⟨T, true, oT, a1, a7 _ _ t1 t2 t3 hT, t1, t2, t3, t4⟩⟩ a5 a6 fun c o c1 _ c3 c4 e => a7 c o c1 c3 c4 e
    · exact a7 _ _ D.TIz D.TIi1 D.TIi2 st.hTI
    · exact st.hl1.at fun o e => a7 _ o D.l1z D.l1i1 D.l1i2 e
    · exact st.hl2.at fun o e => a7 _ o D.l2z D.l2i1 D.l2i2 e
theorem done {E : Value → Shared → Prop} {i : Nat} {Q : Option Value → Shared → Prop} (hh : A.handled = none) (D : ZipApart z TI TO i1 i2 l1 l2) (st : St xs ys z TI TO i1 i2 l1 l2 S i s.heap) (hend : xs[i]? = none ∨ ys[i]? = none)
    (hQ : ∀ h', (∀ c o, c ≠ z → c ≠ TO → c ≠ i1 → c ≠ i2 → s.heap.get? c = some o → h'.get? c = some o) → Q none { s with heap := h' }) : wpAny (model prog w) A (pyNext (.ref z)) Q E s := by
  rcases st.hz with ⟨hz, a, b, hTO⟩ | ⟨T, f, oT, hz, hT, t1, t2, t3, t4⟩
  · exact wpAny_pyNext_zip_end hh D hz st.hTI hTO st.h1 st.h2 st.hl1 st.hl2 hend hQ
  · exact wpAny_pyNext_zip_end_held hh D hz hT st.hTI st.h1 st.h2 st.hl1 st.hl2 hend fun h' k => hQ h' fun c o c1 _ c3 c4 e => k c o c1 c3 c4 e
theorem loop (hh : A.handled = none) (D : ZipApart z TI TO i1 i2 l1 l2) (n : z ≠ S ∧ TI ≠ S ∧ TO ≠ S ∧ i1 ≠ S ∧ i2 ≠ S ∧ l1 ≠ S ∧ l2 ≠ S) (hle : ys.size = xs.size) (hn : xs.size ≤ 1000) (res : Value) {h₁ : Heap} {lo : Addr} (hlo : z < lo ∧ TO < lo ∧ i1 < lo ∧ i2 < lo ∧ S < lo)
    (hR : ∀ h' tk acc c as, (∀ b o, b ≠ S → b ≠ z → b ≠ TO → b ≠ i1 → b ≠ i2 → h₁.get? b = some o → h'.get? b = some o) → h'.get? S = some { cls := .type "list", dict := none, data := .seq acc c, slots := #[] } → as.length = xs.size → G xs ys h' lo as →
      acc.toList = as.map Value.ref → R (.ok (.ret res)) { s with heap := h', toks := tk }) :
    ∀ (k i : Nat) (h : Heap) (tk c : Nat) (acc : Array Value) (as : List Addr), xs.size - i = k → i ≤ xs.size → St xs ys z TI TO i1 i2 l1 l2 S i h → (∀ b o, b ≠ S → b ≠ z → b ≠ TO → b ≠ i1 → b ≠ i2 → h₁.get? b = some o → h.get? b = some o) →
      h.get? S = some { cls := .type "list", dict := none, data := .seq acc c, slots := #[] } → acc.toList = as.map Value.ref → as.length = i → G xs ys h lo as → lo ≤ h.objs.size →
      codeAny (model prog w) A (.builtin "list.extend.loop" ⟨[.ref S, .ref z, res], []⟩) R { s with heap := h, toks := tk } := by
  obtain ⟨o1, o2, o3, o4, o5⟩ := hlo
  have off : ∀ {a : Addr}, lo ≤ a → a ≠ S ∧ a ≠ z ∧ a ≠ TO ∧ a ≠ i1 ∧ a ≠ i2 := fun {a} h => ⟨Nat.ne_of_gt (Nat.lt_of_lt_of_le o5 h), Nat.ne_of_gt (Nat.lt_of_lt_of_le o1 h), Nat.ne_of_gt (Nat.lt_of_lt_of_le o2 h), Nat.ne_of_gt (Nat.lt_of_lt_of_le o3 h), Nat.ne_of_gt (Nat.lt_of_lt_of_le o4 h)⟩
  have hSk : S ≠ z ∧ S ≠ TO ∧ S ≠ i1 ∧ S ≠ i2 := ⟨n.1.symm, n.2.2.1.symm, n.2.2.2.1.symm, n.2.2.2.2.1.symm⟩
  intro k
  induction k with
  | zero =>
    intro i h tk c acc as hk hi hst hkeep hS hacc hal hG hIs
    refine codeAny_builtin PySem.F.entry_extend_loop ?_
    rw [Around.under_plainId PySem.F.plain_extend_loop _]
    show wpAny _ A.in1 (pyNext (.ref z) >>= _) _ _ _
    refine wpAny_bind (done (s := { s with heap := h, toks := tk }) (A := A.in1) hh D hst (.inl (Array.getElem?_eq_none (by omega))) fun h' he => ?_)
    refine wpAny_pure (hR h' tk acc c as (fun b o h1 h2 h3 h4 h5 e => he b o h2 h3 h4 h5 (hkeep b o h1 h2 h3 h4 h5 e)) (he S _ hSk.1 hSk.2.1 hSk.2.2.1 hSk.2.2.2 hS) (by omega) ⟨hG.rise, hG.above, fun j a hj => ?_⟩ hacc)
    obtain ⟨x, y, e1, e2, e3⟩ := hG.pairs j a hj
    obtain ⟨q1, q2, q3, q4, q5⟩ := off (hG.above a (List.mem_of_getElem? hj))
    exact ⟨x, y, e1, e2, he a _ q2 q3 q4 q5 e3⟩
  | succ k ih =>
    intro i h tk c acc as hk hi hst hkeep hS hacc hal hG hIs
    have hlt : i < xs.size := by omega
    have hsz : acc.size = i := by rw [← Array.length_toList, hacc, List.length_map, hal]
    refine codeAny_builtin PySem.F.entry_extend_loop ?_
    rw [Around.under_plainId PySem.F.plain_extend_loop _]
    show wpAny _ A.in1 (pyNext (.ref z) >>= _) _ _ _
    refine wpAny_bind (item (s := { s with heap := h, toks := tk }) (x := xs[i]) (y := ys[i]'(by omega)) D hst (Heap.lt_size hS) (Array.getElem?_eq_getElem _) (Array.getElem?_eq_getElem _) fun h' hst' ht hz hkp => ?_)
    dsimp only at ht hz hkp ⊢
    have hS' := hkp S _ hSk.1 hSk.2.1 hSk.2.2.1 hSk.2.2.2 hS
    have up : ∀ b o, b ≠ S → h'.get? b = some o → (h'.update S (Obj.mapSeq (·.push (Value.ref h.objs.size)))).get? b = some o := fun b o hb e => (Heap.get?_update_other _ _ (Ne.symm hb)).trans e
    have hSl : S < h.objs.size := Heap.lt_size hS
    show wpAny _ A.in1 (updateSeq S (·.push (Value.ref h.objs.size)) >>= _) _ _ _
    refine wpAny_bind ?_
    refine wpAny_updateSeq hS' rfl (wpAny_pure ⟨plainId_quiet PySem.F.plain_extend_loop _, ih (i + 1) _ tk _ (acc.push (Value.ref h.objs.size)) (as ++ [h.objs.size]) (by omega) hlt (hst'.keep up n)
      (fun b o h1 h2 h3 h4 h5 e => up b o h1 (hkp b o h2 h3 h4 h5 (hkeep b o h1 h2 h3 h4 h5 e))) (Heap.get?_update_self _ hS' rfl) (by rw [Array.toList_push, hacc, List.map_append]; rfl) (by rw [List.length_append, hal]; rfl) ⟨?_, ?_, ?_⟩ ?_⟩) (by rw [hsz, sizeLine_eq]; omega) (by show (acc.push (Value.ref h.objs.size)).size ≤ sizeLine + 1; rw [Array.size_push, hsz, sizeLine_eq]; omega)
    · refine List.pairwise_append.mpr ⟨hG.rise, List.pairwise_singleton _ _, fun a ha b hb => ?_⟩
      rw [List.mem_singleton.mp hb]
      exact hG.there ha
    · intro a ha
      rcases List.mem_append.mp ha with ha | ha
      · exact hG.above a ha
      · rw [List.mem_singleton.mp ha]; exact hIs
    · intro j b hj
      rcases Nat.lt_trichotomy j as.length with h1 | h1 | h1
      · rw [List.getElem?_append_left h1] at hj
        obtain ⟨x, y, e1, e2, e3⟩ := hG.pairs j b hj
        obtain ⟨q1, q2, q3, q4, q5⟩ := off (hG.above b (List.mem_of_getElem? hj))
        exact ⟨x, y, e1, e2, up b _ q1 (hkp b _ q2 q3 q4 q5 e3)⟩
      · subst h1
        have hb : h.objs.size = b := by simpa using hj
        subst hb
        exact ⟨_, _, Array.getElem?_eq_getElem (by omega), Array.getElem?_eq_getElem (by omega), by subst hal; exact up _ _ (Nat.ne_of_gt hSl) ht⟩
      · have hnone : (as ++ [h.objs.size])[j]? = none := List.getElem?_eq_none (by rw [List.length_append, List.length_singleton]; omega)
        rw [hnone] at hj; cases hj
    · have e : (h'.update S (Obj.mapSeq (·.push (Value.ref h.objs.size)))).get? h.objs.size = _ := up _ _ (Nat.ne_of_gt hSl) ht
      exact Nat.le_trans hIs (Nat.le_of_lt (Heap.lt_size e))
end
section
variable {prog : Program} {w : World} {A : Around} {E : Value → Shared → Prop} {s : Shared} {xs ys : Array Value} {z TI TO i1 i2 l1 l2 : Addr}
abbrev Apart (S z TI TO i1 i2 l1 l2 : Addr) : Prop := z ≠ S ∧ TI ≠ S ∧ TO ≠ S ∧ i1 ≠ S ∧ i2 ≠ S ∧ l1 ≠ S ∧ l2 ≠ S
theorem extend {R : Result → Shared → Prop} {S : Addr} (hh : A.handled = none) (D : ZipApart z TI TO i1 i2 l1 l2) (n : Apart S z TI TO i1 i2 l1 l2) (hle : ys.size = xs.size) (hn : xs.size ≤ 1000) (res : Value) (c₀ : Nat)
    (hlo : z < s.heap.objs.size ∧ TO < s.heap.objs.size ∧ i1 < s.heap.objs.size ∧ i2 < s.heap.objs.size) (hS : s.heap.get? S = some { cls := .type "list", data := .seq #[] c₀ }) (st : St xs ys z TI TO i1 i2 l1 l2 S 0 s.heap) (hz : IsZip s.heap z TI TO .none)
    (hR : ∀ h' tk acc c as, (∀ b o, b ≠ S → b ≠ z → b ≠ TO → b ≠ i1 → b ≠ i2 → s.heap.get? b = some o → h'.get? b = some o) → h'.get? S = some { cls := .type "list", dict := none, data := .seq acc c, slots := #[] } → as.length = xs.size → G xs ys h' s.heap.objs.size as →
      acc.toList = as.map Value.ref → R (.ok (.ret res)) { s with heap := h', toks := tk }) :
    wpAny (model prog w) A.in1 (Builtin.List.listExtendWith (.ref S) (.ref z) res)
      (fun fin s' => match fin with | .done f => R (.ok f) s' | .again c' => c'.quiet = true ∧ codeAny (model prog w) A c' R s') (fun e s' => R (.error e) s') s := by
  have key : ∀ (h : Heap) (c₁ tk : Nat), (∀ b o, b ≠ S → s.heap.get? b = some o → h.get? b = some o) → s.heap.objs.size ≤ h.objs.size →
      h.get? S = some { cls := .type "list", data := .seq #[] c₁ } → codeAny (model prog w) A (.builtin "list.extend.loop" ⟨[.ref S, .ref z, res], []⟩) R { s with heap := h, toks := tk } := by
    intro h c₁ tk hk hle' hS₁
    exact loop (h₁ := s.heap) hh D n hle hn res (lo := s.heap.objs.size) ⟨hlo.1, hlo.2.1, hlo.2.2.1, hlo.2.2.2, Heap.lt_size hS⟩ hR xs.size 0 h tk c₁ #[] [] (Nat.sub_zero _) (Nat.zero_le _) (st.keep hk n) (fun b o h1 _ _ _ _ e => hk b o h1 e) hS₁ rfl rfl
      ⟨List.Pairwise.nil, (fun _ ha => nomatch ha), (fun j a hj => by simp at hj)⟩ hle'
  unfold Builtin.List.listExtendWith
  refine wpAny_bind (wpAny_typeOf (T := "zip") ⟨_, hz, rfl⟩ ?_)
  have h1 : Builtin.List.listSameRef (.ref S) (.ref z) = false := by simp [Builtin.List.listSameRef, n.1.symm]
  have h2 : (Value.type "zip" == Value.type "list") = false := by decide
  have h3 : (Value.type "zip" == Value.type "tuple") = false := by decide
  simp only [h1, h2, h3, Bool.or_false, Bool.false_eq_true, if_false]
  refine wpAny_bind (wpAny_pyIter_zip hz ?_)
  refine wpAny_bind (wpAny_holding (hint_zip ⟨_, hz, rfl⟩ ?_))
  refine wpAny_ite_split (fun _ => ?_) (fun _ => wpAny_pure ⟨plainId_quiet PySem.F.plain_extend_loop _, key _ c₀ _ (fun b o _ e => e) (Nat.le_refl _) hS⟩)
  refine wpAny_bind (wpAny_rule ?_)
  refine wpAny_bind ?_
  show wpAny _ _ (updateSeq S (·.push .none) >>= fun _ => updateSeq S (·.pop)) _ _ _
  refine wpAny_bind (wpAny_updateSeq hS rfl ?_)
  have hS₂ := Heap.get?_update_self (Obj.mapSeq (·.push Value.none)) hS rfl
  refine wpAny_updateSeq (hz := by seq_fits) hS₂ rfl ?_
  have hS₃ := Heap.get?_update_self (Obj.mapSeq (·.pop)) hS₂ rfl
  refine wpAny_pure ⟨plainId_quiet PySem.F.plain_extend_loop _, key _ _ _ (fun b o hb e => ?_) ?_ hS₃⟩
  · exact (Heap.get?_update_other _ _ (Ne.symm hb)).trans ((Heap.get?_update_other _ _ (Ne.symm hb)).trans e)
  · rw [Heap.size_update, Heap.size_update]; exact Nat.le_refl _
theorem init {R : Result → Shared → Prop} {S : Addr} (hh : A.handled = none) (D : ZipApart z TI TO i1 i2 l1 l2) (n : Apart S z TI TO i1 i2 l1 l2) (hle : ys.size = xs.size) (hn : xs.size ≤ 1000)
    (hlo : z < s.heap.objs.size ∧ TO < s.heap.objs.size ∧ i1 < s.heap.objs.size ∧ i2 < s.heap.objs.size) (hS : s.heap.get? S = some { cls := .type "list", data := .seq #[] }) (st : St xs ys z TI TO i1 i2 l1 l2 S 0 s.heap) (hz : IsZip s.heap z TI TO .none)
    (hR : ∀ h' tk acc c as, (∀ b o, b ≠ S → b ≠ z → b ≠ TO → b ≠ i1 → b ≠ i2 → s.heap.get? b = some o → h'.get? b = some o) → h'.get? S = some { cls := .type "list", dict := none, data := .seq acc c, slots := #[] } → as.length = xs.size → G xs ys h' s.heap.objs.size as →
      acc.toList = as.map Value.ref → R (.ok (.ret .none)) { s with heap := h', toks := tk }) :
    wpAny (model prog w) A.in1 (Builtin.«list.__init__» ⟨[.ref S, .ref z], []⟩)
      (fun fin s' => match fin with | .done f => R (.ok f) s' | .again c' => c'.quiet = true ∧ codeAny (model prog w) A c' R s') (fun e s' => R (.error e) s') s := by
  show wpAny _ _ (do let old ← Builtin.List.listItems (.ref S); Builtin.List.listUpdate (.ref S) (fun _ => #[]); letGo old.toList.reverse; Builtin.List.listExtendWith (.ref S) (.ref z) .none) _ _ s
  refine wpAny_bind ?_
  unfold Builtin.List.listItems
  refine wpAny_bind (wpAny_seqItems hS rfl (wpAny_pure ?_))
  show wpAny _ _ (updateSeq S (fun _ => #[]) >>= fun _ => letGo (#[] : Array Value).toList.reverse >>= fun _ => Builtin.List.listExtendWith (.ref S) (.ref z) .none) _ _ s
  refine wpAny_bind (wpAny_updateSeq hS rfl ?_)
  have hS₂ := Heap.get?_update_self (Obj.mapSeq (fun _ => (#[] : Array Value))) hS rfl
  have oth : ∀ b o, b ≠ S → s.heap.get? b = some o → (s.heap.update S (Obj.mapSeq (fun _ => (#[] : Array Value)))).get? b = some o :=
    fun b o hb e => (Heap.get?_update_other _ _ (Ne.symm hb)).trans e
  have sz : (s.heap.update S (Obj.mapSeq (fun _ => (#[] : Array Value)))).objs.size = s.heap.objs.size := Heap.size_update ..
  refine wpAny_bind (wpAny_letGo ?_)
  refine extend (xs := xs) (ys := ys) hh D n hle hn .none _ (by dsimp only; rw [sz]; exact hlo) hS₂ (st.keep oth n) (oth z _ n.1 hz) (fun h' tk acc c as hk hS' hl hG hacc => ?_)
  refine hR h' tk acc c as (fun b o h1 h2 h3 h4 h5 e => hk b o h1 h2 h3 h4 h5 (oth b o h1 e)) hS' hl ?_ hacc
  dsimp only at hG
  rw [sz] at hG
  exact hG
theorem call_list {Q : Value → Shared → Prop} (hh : A.handled = none) (D : ZipApart z TI TO i1 i2 l1 l2) (hle : ys.size = xs.size) (hn : xs.size ≤ 1000)
    (hlo : z < s.heap.objs.size ∧ TI < s.heap.objs.size ∧ TO < s.heap.objs.size ∧ i1 < s.heap.objs.size ∧ i2 < s.heap.objs.size ∧ l1 < s.heap.objs.size ∧ l2 < s.heap.objs.size) (st : ∀ S, St xs ys z TI TO i1 i2 l1 l2 S 0 s.heap) (hz : IsZip s.heap z TI TO .none)
    (hQ : ∀ h' tk acc c as, (∀ b o, b ≠ z → b ≠ TO → b ≠ i1 → b ≠ i2 → s.heap.get? b = some o → h'.get? b = some o) → h'.get? s.heap.objs.size = some { cls := .type "list", dict := none, data := .seq acc c, slots := #[] } → as.length = xs.size → G xs ys h' (s.heap.objs.size + 1) as →
      acc.toList = as.map Value.ref → Q (.ref s.heap.objs.size) { s with heap := h', toks := tk }) :
    wpAny (model prog w) A (call (.type "list") [.ref z]) Q E s := by
  refine callType_codes (Q₁ := fun obj s₁ => obj = .ref s.heap.objs.size ∧ s₁ = { s with heap := s.heap.push { cls := .type "list", data := .seq #[] } }) PySem.F.called_list (PySem.F.typeCall_list_1 _) PySem.F.entry_list_init
    (code_list_new _ ⟨rfl, rfl⟩) fun obj s₁ h₁ => ?_
  obtain ⟨rfl, rfl⟩ := h₁
  have hS : (s.heap.push { cls := .type "list", data := .seq #[] }).get? s.heap.objs.size = some { cls := .type "list", data := .seq #[] } := Heap.get?_push_size _ rfl
  obtain ⟨o1, o2, o3, o4, o5, o6, o7⟩ := hlo
  have n : Apart s.heap.objs.size z TI TO i1 i2 l1 l2 := ⟨Nat.ne_of_lt o1, Nat.ne_of_lt o2, Nat.ne_of_lt o3, Nat.ne_of_lt o4, Nat.ne_of_lt o5, Nat.ne_of_lt o6, Nat.ne_of_lt o7⟩
  have pk : ∀ b o, b ≠ s.heap.objs.size → s.heap.get? b = some o → (s.heap.push { cls := .type "list", data := .seq #[] }).get? b = some o := fun b o _ e => Heap.get?_push_of_some _ e
  have sz : (s.heap.push { cls := .type "list", data := .seq #[] }).objs.size = s.heap.objs.size + 1 := Heap.size_push ..
  refine ⟨⟨_, hS, rfl⟩, PySem.F.args_list_init_2 _ _, init (xs := xs) (ys := ys) (A := A.in1) hh D n hle hn ?_ hS ((st _).keep pk n) (pk z _ n.1 hz) (fun h' tk acc c as hk hS' hl hG hacc => ?_)⟩
  · dsimp only; rw [sz]; exact ⟨Nat.lt_succ_of_lt o1, Nat.lt_succ_of_lt o3, Nat.lt_succ_of_lt o4, Nat.lt_succ_of_lt o5⟩
  · refine ⟨rfl, hQ h' tk acc c as (fun b o h1 h2 h3 h4 e => hk b o (Nat.ne_of_lt (Heap.lt_size e)) h1 h2 h3 h4 (pk b o (Nat.ne_of_lt (Heap.lt_size e)) e)) hS' hl ?_ hacc⟩
    dsimp only at hG
    rw [sz] at hG
    exact hG
end
end Zl
set_option Elab.async false
set_option linter.all false
set_option maxRecDepth 100000
set_option maxHeartbeats 4000000
namespace Ru
open PySem PySem.Spec PyProof.Rows L2
theorem ne_n0 {b n : Nat} (h : b < n) : b ≠ n := by omega
theorem ne_n1 {b n : Nat} (h : b < n) : b ≠ n + 1 := by omega
theorem ne_n3 {b n : Nat} (h : b < n) : b ≠ n + 3 := by omega
theorem ne_n4 {b n : Nat} (h : b < n) : b ≠ n + 4 := by omega
theorem lt_5 {a b n : Nat} (h : a < n) (h2 : b < n) : n + 4 < n + 5 ∧ n + 2 < n + 5 ∧ n + 3 < n + 5 ∧ n < n + 5 ∧ n + 1 < n + 5 ∧ a < n + 5 ∧ b < n + 5 := by omega
def tLZ (K : PySem.W.Frag) (ta : TA) : TE := fun σ H Q => ta σ H fun vs H1 => ∃ a b xs ys, vs = [V.ref a, .ref b] ∧ SqL K H1 a xs ∧ SqL K H1 b ys ∧ ys.length = xs.length ∧ xs.length ≤ 1000 ∧ ∀ L H2 es, Same H1 H2 → H1 L = none → H2 L = some (.lst es) → es.length = xs.length →
  (∀ (i : Nat) (v : V), es[i]? = some v → ∃ p x y, v = .ref p ∧ xs[i]? = some x ∧ ys[i]? = some y ∧ H2 p = some (.tup [x, y])) → Q (.ref L) H2
section
variable {X : Cx} {a b : Expr} {ta : TA} {p p2 pos pos2 : Pos}
theorem pe_listZip (hc : X.calm = true) (hgl : Gl X "list") (hml : X.mg "list" = none) (hgz : Gl X "zip") (hmz : X.mg "zip" = none) (ha : PA X [a, b] ta)
    (hs : starEach [a, b] X.env = (false, eval a X.env) :: starEach [b] X.env := by rfl) (hpl : (backTo pos2 (starEach [b] X.env)).any (·.1) = false := by rfl)
    (na : starEach [.Call (.Name "zip" p2) [a, b] [] pos2] X.env = (false, eval (.Call (.Name "zip" p2) [a, b] [] pos2) X.env) :: starEach [] X.env := by rfl) :
    PE X (.Call (.Name "list" p) [.Call (.Name "zip" p2) [a, b] [] pos2] [] pos) (tLZ X.K ta) := by
  refine ⟨fun pins s σ H Q I h => ?_⟩
  have hz : wpAny (model X.prog X.w) X.A (eval (.Call (.Name "zip" p2) [a, b] [] pos2) X.env) (fun x s' => wpAny (model X.prog X.w) X.A (call (.type "list") [x]) (EP X pins σ Q) X.xe s') X.xe s := by
    refine Call_ (ld_blt I hgz hmz PyProof.Rows.boot_zip (PyProof.Rows.callWith_type1 (thn (ha.run pos2 pins s σ H _ I h) fun us s1 ⟨vs, H1, I1, r, l1, l2, xs, ys, e, hx, hy, hl, hn, q⟩ => ?_) hs hpl))
    subst e
    obtain ⟨u1, u2, rfl, r1, r2⟩ := vals2 r
    cases (show u1 = Value.ref l1 from r1)
    cases (show u2 = Value.ref l2 from r2)
    obtain ⟨xi, rx, px, _⟩ := I1.list hx
    obtain ⟨yi, ry, py, _⟩ := I1.list hy
    have hl1 := px.isList
    have hl2 := py.isList
    have lt1 : l1 < s1.heap.objs.size := let ⟨o, e, _⟩ := hl1; Heap.lt_size e
    have lt2 : l2 < s1.heap.objs.size := let ⟨o, e, _⟩ := hl2; Heap.lt_size e
    refine call_zip_2 hl1 hl2 fun h' c1 c2 c3 c4 c5 c6 c7 => ?_
    have D : ZipApart (s1.heap.objs.size + 4) (s1.heap.objs.size + 2) (s1.heap.objs.size + 3) s1.heap.objs.size (s1.heap.objs.size + 1) l1 l2 := PySem.W.ktu_apart s1.heap.objs.size l1 l2 lt1 lt2
    have sx : ys.length = xs.length := hl
    have z1 : yi.toArray.size = xi.toArray.size := by
      have := rx.length; have := ry.length
      simp only [List.size_toArray]; omega
    have z2 : xi.toArray.size ≤ 1000 := by
      have := rx.length
      simp only [List.size_toArray]; omega
    refine Zl.call_list (s := { s1 with heap := h' }) (xs := xi.toArray) (ys := yi.toArray) (I1.ok.hd hc) D z1 z2 ?_ (fun S => ⟨c2, c4, c5, hl1.at fun o e => c7 _ o e, hl2.at fun o e => c7 _ o e, .inl ⟨c1, _, _, c3⟩⟩) c1 fun h'' tk acc c as hk hS hal hG hacc => ?_
    · dsimp only
      rw [c6]
      exact lt_5 lt1 lt2
    dsimp only at hk hS hG ⊢
    have kp : ∀ b o, s1.heap.get? b = some o → h''.get? b = some o := fun b o e => by
      have l : b < s1.heap.objs.size := Heap.lt_size e
      exact hk b o (ne_n4 l) (ne_n3 l) (ne_n0 l) (ne_n1 l) (c7 b o e)
    have hsz : s1.heap.objs.size ≤ h'.objs.size := by rw [c6]; exact Nat.le_add_right _ 5
    have rv : Vals (as.map V.ref) acc.toList := by
      rw [hacc]
      clear hacc hG hal
      induction as with
      | nil => exact .nil
      | cons a as ih => exact .cons rfl ih
    have okS : ObjOk X.prog X.w (upd H1 h'.objs.size (.lst (as.map V.ref))) h'' h'.objs.size (.lst (as.map V.ref)) := by
      refine ⟨?_, acc.toList, c, rv, by rw [Array.toArray_toList]; exact hS⟩
      rw [List.length_map, hal]
      exact Nat.le_trans z2 (by decide)
    have I3 : Inv X pins σ (upd H1 h'.objs.size (.lst (as.map V.ref))) { s1 with heap := h'', toks := tk } := I1.laid (t' := tk) kp hsz okS
    have nd : as.Nodup := List.Pairwise.imp (fun h => Nat.ne_of_lt h) hG.rise
    have hSn : H1 h'.objs.size = none := I1.hok.fresh hsz
    obtain ⟨H2, I4, g, qq⟩ := L2.DX.takeT (P := fun a vs => ∀ j, as[j]? = some a → ∃ x y, xs[j]? = some x ∧ ys[j]? = some y ∧ vs = [x, y]) I1 as _ I3 nd fun a ha => by
      have ab : (h'.objs.size + 1 : Nat) ≤ a := hG.above a ha
      have ge : (s1.heap.objs.size : Nat) ≤ a := Nat.le_trans hsz (Nat.le_trans (Nat.le_succ _) ab)
      have ne : a ≠ h'.objs.size := fun z => by rw [z] at ab; exact Nat.not_succ_le_self _ ab
      obtain ⟨j, hj⟩ := List.mem_iff_getElem?.mp ha
      obtain ⟨x, y, e1, e2, e3⟩ := hG.pairs j a hj
      rw [List.getElem?_toArray] at e1 e2
      have hjx : j < xi.length := (List.getElem?_eq_some_iff.mp e1).1
      have lx := rx.length
      have ly := ry.length
      obtain ⟨ux, q1, q2⟩ := rx.get (i := j) (x := xs[j]'(by omega)) (List.getElem?_eq_getElem _)
      obtain ⟨uy, q3, q4⟩ := ry.get (i := j) (x := ys[j]'(by omega)) (List.getElem?_eq_getElem _)
      rw [e1] at q1; cases q1
      rw [e2] at q3; cases q3
      refine ⟨ge, ?_, [xs[j]'(by omega), ys[j]'(by omega)], fun j' hj' => ?_, fun H2' => ⟨by show 2 ≤ sizeLine; decide, [x, y], .cons q2 (.cons q4 .nil), ⟨_, e3, rfl, 0, rfl⟩⟩⟩
      · rw [upd_ne ne]; exact I1.hok.fresh ge
      · have jj : j' = j := by
          have h1 := List.getElem?_eq_some_iff.mp hj
          have h2 := List.getElem?_eq_some_iff.mp hj'
          obtain ⟨p1, p2⟩ := h1
          obtain ⟨p3, p4⟩ := h2
          exact (List.getElem_inj nd).mp (p4.trans p2.symm)
        subst jj
        exact ⟨_, _, List.getElem?_eq_getElem _, List.getElem?_eq_getElem _, rfl⟩
    refine ⟨.ref h'.objs.size, H2, I4, rfl, q _ H2 (as.map V.ref) (fun b o e => g b o (by rw [upd_ne (ne_of_none e hSn)]; exact e)) hSn (g _ _ upd_same) (by rw [List.length_map, hal]; have := rx.length; simp only [List.size_toArray]; omega) fun i v hv => ?_⟩
    rw [List.getElem?_map] at hv
    cases hai : as[i]? with
    | none => rw [hai] at hv; cases hv
    | some a =>
      rw [hai] at hv
      cases hv
      obtain ⟨vs, h1, h2⟩ := qq a (List.mem_of_getElem? hai)
      obtain ⟨x, y, h3, h4, rfl⟩ := h1 i hai
      exact ⟨a, x, y, rfl, h3, h4, h2⟩
  refine Call_ (ld_blt I hgl hml boot_list (PyProof.Rows.callWith_type1 (args_cons (thn hz fun x s1 h1 => args_nil h1) na) na))
end
/-! ### a def with a star parameter, called plainly -/
structure CalR (P : Program) (w : World) (K : PySem.W.Frag) (mg : Str → Option Value) (base : Heap) (k : Nat) (x : Str) (sp : Sp) : Prop where
  ex : ∃ f : Addr, FnR P w K mg base CX0 k f sp ∧ mg x = some (.ref f) ∧ PySem.W.keepIn K (.ref f) = true
theorem pe_callR {X : Cx} {k j : Nat} {sp : Sp} {x : Str} {e : Expr} {es : List Expr} {t : TA} {p pos : Pos} (c : CalR X.prog X.w X.K X.mg X.base k x sp) (hr : Room j X.A) (hk : k ≤ j) (hg : Gl X x) (ha : PA X (e :: es) t)
    (hdb : (x == ("__debug__" : Str)) = false := by decide) (he : starEach (e :: es) X.env = (false, eval e X.env) :: starEach es X.env := by rfl) (hpl : (backTo pos (starEach es X.env)).any (·.1) = false := by rfl) :
    PE X (.Call (.Name x p) (e :: es) [] pos) (fun σ H Q => t σ H fun vs H1 => sp vs H1 Q E0) := by
  obtain ⟨f, F, hm, kp⟩ := c.ex
  refine ⟨fun pins s σ H Q I h => ?_⟩
  refine wpAny_Call_Name_kw (ld_glob I hg hm ?_ hdb)
  refine PySem.W.callWith_K (h₀ := X.base) I.ok.mod.kin kp (thn (ha.run pos pins s σ H _ I h) fun us s1 ⟨vs, H1, I1, r, q⟩ => ⟨I1.kIn, ?_⟩) he hpl
  exact wpAny_call (run_fnR F (hr.mono hk) pass0 I1 r q)
end Ru
set_option Elab.async false
set_option linter.all false
set_option maxRecDepth 100000
set_option maxHeartbeats 4000000
namespace K98
open PySem PySem.Spec PyProof.Rows L2 Ru He6 TL
open C8 (Cal pe_c)
theorem atI_neg1 {α : Type} {xs : List α} {v : α} (h0 : 0 < xs.length) (h : xs[xs.length - 1]? = some v) : atI xs (-1) = some v := by
  have e : xs = xs.dropLast ++ [v] := by
    have h1 := List.getElem?_eq_some_iff.mp h
    obtain ⟨h2, h3⟩ := h1
    have h4 : xs ≠ [] := fun z => by rw [z] at h0; cases h0
    rw [← h3, ← List.getLast_eq_getElem h4]
    exact (List.dropLast_concat_getLast h4).symm
  rw [e]
  exact atI_last _ _
section
variable {P : Program} {w : World} {K : PySem.W.Frag} {mg : Str → Option Value} {base : Heap}
theorem sc_keeps_kind : FnScope ["make", "kind"] ["make", "kind"] (defScope s_keeps_kind) := ⟨rfl, rfl, rfl, by decide +kernel, rfl, by decide +kernel, by decide +kernel⟩
def sp_keeps_kind (K : PySem.W.Frag) : Sp := fun vs H Q _ => ∃ a b m kd, vs = [.ref a, .ref b] ∧ MakeAt K H a m ∧ KindAt K H b kd ∧ kdOk kd ∧ ∀ H', Same H H' → Q (.bl true) H'
theorem ok_keeps_kind (T : TT K mg) : Cal P w K mg base 9 "keeps_kind" (sp_keeps_kind K) [] := by
  refine cal_of (f_keeps_kind T) (g_keeps_kind T) sc_keeps_kind (fun _ _ _ _ _ _ us hl => match us, hl with | [_, _], _ => rfl) (fun vs H Q E h => ?_) (fun cdv A outer s H vs Q E hr h => ?_)
  · obtain ⟨a, b, m, kd, rfl, ⟨dm, hm⟩, hk, hok, k⟩ := h; rfl
  · obtain ⟨a, b, m, kd, rfl, ⟨dm, hm⟩, hk, hok, k⟩ := h
    refine ⟨_, (pss_one (ps_ret (pe_methSt (pl := _) (pv 0) (mk_all (ok_Make_keeps T)) hr (by decide) (pa_cons (pe_smeth (pl := _) (pe_glob (v := .ref (He.ga K "Directives")) (by rfl) (g_Directives T) rfl) (ok_Directives_read T) hr (by decide) (pa_cons pe_non pa_nil)) (pa_cons (pe_c (ok_kind_directives T) hr (by decide) (by rfl) (pa_cons (pv 1) pa_nil)) pa_nil))))), ?_⟩
    refine ⟨_, rfl, _, _, a, dm, mkF m, ⟨_, rfl, rfl⟩, rfl, hm, mkF_keeps m, ?_⟩
    refine ⟨rfl, none, [], rfl, rfl, by decide, (fun _ h => by cases h), (fun a b i n m h1 h2 => by cases h2), fun d1 H1 e1 hd1 => ?_⟩
    refine ⟨_, rfl, b, kd, rfl, hk.mono e1, hok, fun d2 H2 e2 hd2 => ?_⟩
    exact ⟨a, d1, d2, [], wsK kd, rfl, let ⟨dx, h⟩ := hd1; ⟨dx, e2 _ _ h⟩, hd2, k _ (e1.trans e2)⟩
theorem sc_checking_hops : FnScope ["setting", "at", "make"] ["setting"] (defScope s_checking_hops) := ⟨rfl, rfl, rfl, by decide +kernel, rfl, by decide +kernel, by decide +kernel⟩
def sp_checking_hops (K : PySem.W.Frag) : Sp := fun vs H Q _ => ∃ a s, vs = [.ref a] ∧ SetAt K H a s ∧ SetOk s ∧ ∀ L H' ns, Same H H' → H L = none → H' L = some (.lst ns) → ((∀ m ∈ s.makes, m.checks = false) → ns = []) → Q (.ref L) H'
theorem ok_checking_hops (T : TT K mg) : Cal P w K mg base 10 "checking_hops" (sp_checking_hops K) [] := by
  refine cal_of (f_checking_hops T) (g_checking_hops T) sc_checking_hops (fun _ _ _ _ _ _ us hl => match us, hl with | [_], _ => rfl) (fun vs H Q E h => ?_) (fun cdv A outer s H vs Q E hr h => ?_)
  · obtain ⟨a, s, rfl, ⟨dx, pm, pk, pc, pd, ms, cs, nd, h⟩, hok, k⟩ := h; rfl
  · obtain ⟨a, s, rfl, ⟨dx, pm, pk, pc, pd, ms, cs, nd, h⟩, hok, k⟩ := h
    refine ⟨_, (pss_one (ps_ret (pe_lc (own := [("at", 1), ("make", 2)]) (g := (gTup K 2 (gCons (gName 1) (gCons (gName 2) gNil)))) (tt := _) rfl sc_checking_hops.nd (pi_enum (by rfl) (b_enumerate T) (pa_cons (pe_fld (pv 0) rfl) pa_nil)) (blkOk_by (own := [("at", 1), ("make", 2)]) (N := ["setting", "at", "make"]) (sc := defScope s_checking_hops) (by decide +kernel)) (fun _ _ _ _ _ => (pg_tup (n := 2) rfl (pgs_cons (pg_name (i := 1) sc_checking_hops.nd rfl (.inl rfl)) (pgs_cons (pg_name (i := 2) sc_checking_hops.nd rfl (.inl rfl)) pgs_nil)))) (fun _ _ _ _ _ => (pts_one (PW.pt (pw_and (pt_val (pe_fldK (K := K) rfl (pv 2) rfl)) (pw_and1 (pt_val (pe_c (ok_keeps_kind T) hr (by decide) (by rfl) (pa_cons (pv 2) (pa_cons (pe_fldK (K := K) rfl (pv 0) rfl) pa_nil))))))))) (fun _ _ _ _ _ => (pe_op op_add (pv 1) pe_int))))), ?_⟩
    refine ⟨_, rfl, _, _, dx, _, _, rfl, h.ob, c_Setting T, n_Setting_makes T, stF_makes, pm, _, rfl, h.mks, fun D hD => ?_⟩
    refine lc_it (walk_enum (xs := ms.map V.ref)) (fun i H' => Same H H' ∧ ∃ acc, H' D = some (.lst acc) ∧ acc.length ≤ i ∧ ((∀ m ∈ s.makes, m.checks = false) → acc = [])) ⟨same_new hD, [], upd_same, Nat.le_refl _, fun _ => rfl⟩ (fun i H' _ p => Evl.ex_l p.1 h.mks) ?_ ?_
    · rintro i x H1 H2 hi ⟨e, acc, hacc, hlen, hno⟩ ⟨T1, x1, y1, rfl, hT1, rfl, hx1, hy1⟩
      cases hx1
      have hi2 : i < s.makes.length := by rw [← h.ml]; simpa using hi
      have e2 := e.trans (same_new (o := .tup [V.int (i : Nat), y1]) hT1)
      have h2 := h.mono e2
      obtain ⟨am, q1, m1, q2⟩ := h2.mat i s.makes[i] (List.getElem?_eq_getElem hi2)
      have hy1 : (ms.map V.ref)[i]? = some y1 := hy1
      rw [List.getElem?_map, q1] at hy1
      cases hy1
      have hacc2 : (upd H1 T1 (.tup [V.int (i : Nat), .ref am])) D = some (.lst acc) := by rw [upd_ne (ne_of_none hacc hT1)]; exact hacc
      refine ⟨_, _, rfl, .of upd_same, rfl, _, _, rfl, _, _, rfl, rfl, rfl, ?_⟩
      refine ⟨_, rfl, _, _, m1, _, _, rfl, q2, cls_of T _, na_checks T _, mkF_checks _, ?_⟩
      cases e3 : s.makes[i].checks with
      | false =>
        refine ⟨_, rfl, iteF (iteF ⟨e2, acc, hacc2, by omega, hno⟩)⟩
      | true =>
        refine ⟨_, rfl, iteT ⟨_, rfl, _, rfl, _, _, dx, _, _, rfl, h2.ob, c_Setting T, n_Setting_kind T, stF_kind, ?_⟩⟩
        refine ⟨am, pk, s.makes[i], s.kind, rfl, ⟨m1, q2⟩, h2.kat, hok.2.2.1, fun H3 e4 => ⟨_, rfl, iteT ?_⟩⟩
        refine ⟨_, rfl, _, _, rfl, rfl, acc, e4 _ _ hacc2, ?_, same_mut (e2.trans e4) hD, _, upd_same, ?_, fun hall => ?_⟩
        · exact Nat.lt_of_le_of_lt (Nat.le_trans hlen (Nat.le_trans (Nat.le_of_lt hi2) hok.2.1)) (by decide)
        · rw [List.length_append]; simp; omega
        · have := hall _ (List.getElem_mem hi2)
          rw [e3] at this; cases this
    · rintro H1 ⟨e, acc, hacc, _, hno⟩
      exact k D H1 acc e hD hacc hno
theorem sc_Setting_calm : FnScope ["self", "clock", "delay"] ["self"] (defScope s_Setting_calm) := ⟨rfl, rfl, rfl, by decide +kernel, rfl, by decide +kernel, by decide +kernel⟩
def sp_Setting_calm (K : PySem.W.Frag) : Sp := fun vs H Q _ => ∃ a s, vs = [.ref a] ∧ SetAt K H a s ∧ ∀ H', Same H H' → Q (.bl true) H'
theorem ok_Setting_calm (T : TT K mg) : PropS P w K mg base 3 (He.ga K "Setting") "calm" (sp_Setting_calm K) := by
  refine prop_of (f_Setting_calm T) (c_Setting T) (x_6 T) sc_Setting_calm (fun _ _ _ _ _ _ us hl => match us, hl with | [_], _ => rfl) (fun vs H Q E h => ?_) (fun cdv A outer s H vs Q E hr h => ?_)
  · obtain ⟨a, s, rfl, ⟨dx, pm, pk, pc, pd, ms, cs, nd, h⟩, k⟩ := h; rfl
  · obtain ⟨a, s, rfl, ⟨dx, pm, pk, pc, pd, ms, cs, nd, h⟩, k⟩ := h
    refine ⟨_, (pss_cons (ps_if (pt_val (pe_fld (pv 0) rfl))
      (pss_one (ps_ret pe_bl))
      pss_nil)
      (pss_one (ps_ret (pe_and (pe_callB (cr_all rfl) (by rfl) (b_all T) (by decide +kernel) (pa_cons (pe_lc (own := [("clock", 1)]) (g := (gName 1)) (tt := tYes) rfl sc_Setting_calm.nd (pi_list (pe_fld (pv 0) rfl)) (blkOk_by (own := [("clock", 1)]) (N := ["self", "clock", "delay"]) (sc := defScope s_Setting_calm) (by decide +kernel)) (fun _ _ _ _ _ => (pg_name (i := 1) sc_Setting_calm.nd rfl (.inl rfl))) (fun _ _ _ _ _ => pts_nil) (fun _ _ _ _ _ => (pe_cmpR op_eq (pe_propS (ok_Clock_span T) hr (by decide) (pv 1)) pe_int (nomark _)))) pa_nil)) (pe_one (pe_callB (cr_all rfl) (by rfl) (b_all T) (by decide +kernel) (pa_cons (pe_lc (own := [("delay", 2)]) (g := (gName 2)) (tt := tYes) rfl sc_Setting_calm.nd (pi_list (pe_fld (pv 0) rfl)) (blkOk_by (own := [("delay", 2)]) (N := ["self", "clock", "delay"]) (sc := defScope s_Setting_calm) (by decide +kernel)) (fun _ _ _ _ _ => (pg_name (i := 2) sc_Setting_calm.nd rfl (.inl rfl))) (fun _ _ _ _ _ => pts_nil) (fun _ _ _ _ _ => (pe_cmpR op_eq (pv 2) pe_int (nomark _)))) pa_nil))))))), ?_⟩
    refine ⟨_, rfl, _, _, dx, _, _, rfl, h.ob, c_Setting T, n_Setting_loses T, stF_loses, _, rfl, iteF ?_⟩
    refine ⟨_, rfl, _, _, dx, _, _, rfl, h.ob, c_Setting T, n_Setting_clocks T, stF_clocks, pc, rfl, ⟨_, h.ck⟩, fun D hD => ?_⟩
    refine lc_mapR (walk_list (xs := cs.map V.ref)) (fun i v _ => ∃ x, cs[i]? = some x ∧ v = .bl true) (fun i v _ _ _ r => r) (by rw [List.length_map]; exact Nat.le_trans h.cl.2 (by decide)) hD (fun H' e => Evl.ex_l e h.ck) ?_ ?_
    · rintro i x H1 H2 Z hi e ⟨rfl, hx⟩ kz
      rw [List.length_map] at hi
      rw [List.getElem?_map, List.getElem?_eq_getElem hi] at hx
      cases hx
      obtain ⟨dc, hc⟩ := (h.mono e).cat _ (List.getElem_mem hi)
      refine ⟨rfl, _, rfl, _, dc, _, rfl, hc, cs[i], rfl, ⟨dc, hc⟩, rfl, ?_⟩
      exact kz _ _ ⟨_, List.getElem?_eq_getElem hi, rfl⟩ (Same.refl _)
    intro H1 acc e hDacc hlacc hR
    have hacc := acc_eq (xs := cs) (g := fun _ => V.bl true) (by rw [hlacc, List.length_map]) hR
    subst hacc
    refine ⟨D, cs.map fun _ => true, rfl, .of (by rw [hDacc]; simp [Function.comp_def]), _, rfl, ?_⟩
    rw [show (cs.map fun _ => true).all id = true by simp]
    refine iteT ?_
    have h1 := h.mono e
    refine ⟨_, rfl, _, _, dx, _, _, rfl, h1.ob, c_Setting T, n_Setting_delays T, stF_delays, pd, rfl, ⟨_, h1.dl⟩, fun D2 hD2 => ?_⟩
    refine lc_mapR (walk_list (xs := List.replicate nd (V.int 0))) (fun i v _ => ∃ x, (List.replicate nd ())[i]? = some x ∧ v = .bl true) (fun i v _ _ _ r => r) (by rw [List.length_replicate]; exact Nat.le_trans h.dln (by decide)) hD2 (fun H' e => Evl.ex_l e h1.dl) ?_ ?_
    · rintro i x H1 H2 Z hi e ⟨rfl, hx⟩ kz
      rw [List.length_replicate] at hi
      rw [List.getElem?_replicate, if_pos hi] at hx
      cases hx
      refine ⟨rfl, _, rfl, rfl, ?_⟩
      exact kz _ _ ⟨(), by rw [List.getElem?_replicate, if_pos hi], rfl⟩ (Same.refl _)
    intro H2 acc2 e2 hDacc2 hlacc2 hR2
    have hacc2 := acc_eq (xs := List.replicate nd ()) (g := fun _ => V.bl true) (by rw [hlacc2]; simp) hR2
    subst hacc2
    refine ⟨D2, (List.replicate nd ()).map fun _ => true, rfl, .of (by rw [hDacc2]; simp), ?_⟩
    rw [show ((List.replicate nd ()).map fun _ => true).all id = true by simp]
    exact k H2 (e.trans e2)
theorem sc_sound : FnScope ["setting", "kind"] ["setting"] (defScope s_sound) := ⟨rfl, rfl, rfl, by decide +kernel, rfl, by decide +kernel, by decide +kernel⟩
def sp_sound (K : PySem.W.Frag) : Sp := fun vs H Q _ => ∃ a s, vs = [.ref a] ∧ SetAt K H a s ∧ SetOk s ∧ ∀ H', Same H H' → Q (.bl true) H'
theorem ok_sound (T : TT K mg) : Cal P w K mg base 11 "sound" (sp_sound K) [] := by
  refine cal_of (f_sound T) (g_sound T) sc_sound (fun _ _ _ _ _ _ us hl => match us, hl with | [_], _ => rfl) (fun vs H Q E h => ?_) (fun cdv A outer s H vs Q E hr h => ?_)
  · obtain ⟨a, s, rfl, ⟨dx, pm, pk, pc, pd, ms, cs, nd, h⟩, hok, k⟩ := h; rfl
  · obtain ⟨a, s, rfl, ⟨dx, pm, pk, pc, pd, ms, cs, nd, h⟩, hok, k⟩ := h
    refine ⟨_, (pss_cons (ps_expr (pe_c (ok_limits T) hr (by decide) (by rfl) (pa_cons (pv 0) pa_nil)))
      (pss_cons (ps_if (pt_cmpR op_eq (pe_callB call_len_seq (by rfl) (b_len T) PySem.boot_len (pa_cons (pe_c (ok_checking_hops T) hr (by decide) (by rfl) (pa_cons (pv 0) pa_nil)) pa_nil)) pe_int (nomark _))
      (pss_one (ps_ret pe_bl))
      pss_nil)
      (pss_cons (ps_set (i := 1) sc_sound.nd rfl (.inl rfl) (pe_fld (pv 0) rfl))
      (pss_cons (ps_if (pt_cmpR op_eq (pe_fld (pv 1) rfl) pe_str (nomark _))
      (pss_one (ps_ret pe_bl))
      pss_nil)
      (pss_one (ps_ret (pe_not (pe_and (pe_cmpR op_eq (pe_fld (pv 1) rfl) pe_str (nomark _)) (pe_and (pe_fld (pv 1) rfl) (pe_one (pe_cmpR op_le (pe_fld (pv 1) rfl) (pe_propS (ok_Clock_span T) hr (by decide) (pe_ix ix_list (pe_fld (pv 0) rfl) (pe_un un_neg pe_int) (fun _ _ => rfl))) (nomark _)))))))))))), ?_⟩
    refine ⟨_, rfl, a, s, rfl, ⟨dx, pm, pk, pc, pd, ms, cs, nd, h⟩, hok, fun L1 H1 e1 _ _ => ?_⟩
    refine ⟨_, rfl, a, s, rfl, ⟨dx, pm, pk, pc, pd, ms, cs, nd, h.mono e1⟩, hok, fun L2 H2 ns e2 _ hL2 hno => ?_⟩
    refine ⟨L2, ns, rfl, .inl (.of hL2), rfl, _, rfl, ?_⟩
    have e12 := e1.trans e2
    have h2 := h.mono e12
    by_cases c0 : ns = []
    · subst c0
      exact iteTd rfl (k H2 e12)
    refine iteFd (fun z => c0 ?_) ?_
    · have := V.int.inj z
      cases ns with
      | nil => rfl
      | cons _ _ => simp at this; omega
    have hk : s.kind.mark ≠ "weak" ∧ ¬ (s.kind.mark = "none" ∧ s.kind.dated = true ∧ s.kind.margin = 0) := by
      rcases hok.2.2.2 with h1 | h1
      · exact absurd (hno h1) c0
      · exact h1
    obtain ⟨dk, hkd⟩ := h2.kat
    refine ⟨_, rfl, _, _, dx, _, _, rfl, h2.ob, c_Setting T, n_Setting_kind T, stF_kind, ?_⟩
    refine ⟨_, rfl, _, _, dk, _, _, rfl, hkd, c_Kind T, n_Kind_mark T, kdF_mark _, rfl, _, rfl, ?_⟩
    refine iteFd (fun z => hk.1 (V.str.inj z)) ?_
    refine ⟨_, rfl, _, _, dk, _, _, rfl, hkd, c_Kind T, n_Kind_mark T, kdF_mark _, rfl, _, rfl, ?_⟩
    by_cases c1 : s.kind.mark = "none"
    · refine iteTd (by rw [c1]) ⟨_, rfl, _, _, dk, _, _, rfl, hkd, c_Kind T, n_Kind_dated T, kdF_dated _, _, rfl, ?_⟩
      cases c2 : s.kind.dated with
      | false => exact iteF ⟨_, rfl, k H2 e12⟩
      | true =>
        have hm : s.kind.margin ≠ 0 := fun z => hk.2 ⟨c1, c2, z⟩
        refine iteT ⟨_, rfl, _, _, dk, _, _, rfl, hkd, c_Kind T, n_Kind_margin T, kdF_margin _, ?_⟩
        have hcl := h2.cl.1
        have hlast : cs[cs.length - 1]? = some (cs[cs.length - 1]'(by omega)) := List.getElem?_eq_getElem _
        refine ⟨_, rfl, _, _, dx, _, _, rfl, h2.ob, c_Setting T, n_Setting_clocks T, stF_clocks, _, rfl, pc, cs.map V.ref, _, _, rfl, rfl, h2.ck, atI_neg1 (by simp; omega) (by rw [List.length_map, List.getElem?_map, hlast]; rfl), ?_⟩
        obtain ⟨dc, hc⟩ := h2.cat _ (List.getElem_mem (h := by omega) : cs[cs.length - 1]'(by omega) ∈ cs)
        refine ⟨_, dc, _, rfl, hc, _, rfl, ⟨dc, hc⟩, _, _, rfl, rfl, ?_⟩
        refine ⟨decide ((s.kind.margin : Int) ≤ 0), rfl, ?_⟩
        rw [show decide ((s.kind.margin : Int) ≤ 0) = false from decide_eq_false (by omega)]
        exact k H2 e12
    · exact iteFd (fun z => c1 (V.str.inj z)) ⟨_, rfl, k H2 e12⟩
end
end K98
set_option Elab.async false
set_option linter.all false
set_option maxRecDepth 100000
set_option maxHeartbeats 4000000
namespace K98
open PySem PySem.Spec PyProof.Rows L2 Ru He6 TL
open C8 (Cal pe_c)
def chainOf (s : SetD) : Chain := s.makes.map fun m => ⟨limOf m s.kind, m.tells, m.dates⟩
theorem inV_ints (ns : List Int) : inV .non (ns.map V.int) = false := by
  unfold inV
  rw [List.any_eq_false]
  intro v hv
  obtain ⟨n, _, rfl⟩ := List.mem_map.mp hv
  exact Bool.false_ne_true
theorem flat_ints (ns : List Int) : (ns.map V.int).all flatV = true := by
  rw [List.all_map]; exact List.all_eq_true.mpr fun _ _ => rfl
theorem bind_star0 {B : List Value → Sem (List (Str × Value))} {pv : Str} (h0 : B [] = (newTuple [] >>= fun t => pure [(pv, t)])) (h1 : ∀ r rs, B (r :: rs) = (newTuple (r :: rs) >>= fun t => pure [(pv, t)])) :
    ∀ us rest : List Value, us.length = ([] : List Str).length → B (us ++ rest) = (newTuple rest >>= fun t => pure (([] : List Str).zip us ++ [(pv, t)]))
  | [], [], _ => h0
  | [], r :: rs, _ => h1 r rs
def sp_need (K : PySem.W.Frag) : Sp := fun vs H Q _ => ∃ (p : Addr) (as : List Addr), vs = [.ref p] ∧ SqT K H p (as.map V.ref) ∧ (∀ a ∈ as, ∃ s, SetAt K H a s ∧ SetOk s) ∧ ∀ H', Same H H' → Q .non H'
section
variable {P : Program} {w : World} {K : PySem.W.Frag} {mg : Str → Option Value} {base : Heap}
theorem sc_need_calm : FnScope ["settings", "setting"] ["settings"] (defScope s_need_calm) := ⟨rfl, rfl, rfl, by decide +kernel, rfl, by decide +kernel, by decide +kernel⟩
theorem ok_need_calm (T : TT K mg) : CalR P w K mg base 12 "need_calm" (fun vs H Q E => ∃ ws rest, vs = ws ++ rest ∧ ws.length = ([] : List Str).length ∧ rest.length ≤ sizeLine ∧ ∀ p, H p = Option.none → sp_need K (ws ++ [V.ref p]) (upd H p (.tup rest)) Q E) := by
  obtain ⟨fd, F⟩ := f_need_calm T
  obtain ⟨oc, od, dV, kV, doc, pm, an, cdv, ct, osl, rfl, lk, hcd, hD, hK⟩ := F.ex
  have hdv : dV = .none := by rcases hD with ⟨_, h⟩ | ⟨e, _⟩; exact h; exact absurd rfl e
  subst hdv
  refine ⟨_, StX.fn_star (N := ["settings", "setting"]) (ps := []) (pv := "settings") (k := 11) lk hcd sc_need_calm StX.cxUp_none (bind_star0 (B := fun us => bindArgs (PySem.W.fnOf "need_calm" "need_calm" (defArgs s_need_calm) (defBody s_need_calm) (defScope s_need_calm) .none kV doc pm an cdv ct) ⟨us, []⟩) (by rfl) fun r rs => by rfl) (fun A outer s H vs Q E hr h => ?_), g_need_calm T, F.kp⟩
  obtain ⟨p, as, rfl, hp, has, k⟩ := h
  refine ⟨_, PSs.nox (pss_cons (ps_for PassesOwn.never rfl (pi_tup (pv 0)) (pg_name (i := 1) sc_need_calm.nd rfl (.inl rfl))
 (pss_one (ps_expr (pe_c (ok_limits T) hr (by decide) (by rfl) (pa_cons (pv 1) pa_nil)))))
 (pss_one (ps_for PassesOwn.never rfl (pi_tup (pv 0)) (pg_name (i := 1) sc_need_calm.nd rfl (.inl rfl))
 (pss_one (ps_if (PW.pt (pw_or (pt_not (pt_val (pe_propS (ok_Setting_calm T) hr (by decide) (pv 1)))) (pw_or (pt_not (pt_val (pe_c (ok_sound T) hr (by decide) (by rfl) (pa_cons (pv 1) pa_nil)))) (pw_or1 (pt_cmpR op_in_seq pe_non (pe_c (ok_limits T) hr (by decide) (by rfl) (pa_cons (pv 1) pa_nil)) rfl)))))
 (pss_one ps_never)
 pss_nil))))), ?_⟩
  refine seqM (t := tFor _ _ _) (fun σ H' => (∃ x, σ = [some (.ref p), x]) ∧ Same H H') (fun Nx hNx => ?_) ?_
  · refine ⟨_, rfl, p, rfl, ⟨_, hp⟩, ?_⟩
    refine for_it (walk_tup (xs := as.map V.ref)) (fun i σ H' => (∃ x, σ = [some (.ref p), x]) ∧ Same H H') ⟨⟨_, rfl⟩, Same.refl _⟩ (fun i σ H' _ q => Evl.ex_t q.2 hp) ?_ (fun σ H' q => hNx _ _ q)
    rintro i x σ H1 _ hi ⟨⟨x1, rfl⟩, e⟩ ⟨rfl, hx⟩
    rw [List.length_map] at hi
    rw [List.getElem?_map, List.getElem?_eq_getElem hi] at hx
    cases hx
    obtain ⟨s, h1, h2⟩ := has _ (List.getElem_mem hi)
    exact ⟨_, rfl, as[i], s, rfl, h1.mono e, h2, fun L H2 e2 _ _ => ⟨⟨_, rfl⟩, e.trans e2⟩⟩
  · rintro _ H' ⟨⟨x, rfl⟩, e0⟩
    refine ⟨_, rfl, p, rfl, ⟨_, Evl.ex_t e0 hp⟩, ?_⟩
    refine for_it (walk_tup (xs := as.map V.ref)) (fun i σ H' => (∃ x, σ = [some (.ref p), x]) ∧ Same H H') ⟨⟨_, rfl⟩, e0⟩ (fun i σ H' _ q => Evl.ex_t q.2 hp) ?_ (fun σ H' q => k H' q.2)
    rintro i x σ H1 _ hi ⟨⟨x1, rfl⟩, e⟩ ⟨rfl, hx⟩
    rw [List.length_map] at hi
    rw [List.getElem?_map, List.getElem?_eq_getElem hi] at hx
    cases hx
    obtain ⟨s, h1, h2⟩ := has _ (List.getElem_mem hi)
    have h1 := h1.mono e
    obtain ⟨dx, pm', pk, pc, pd, ms, cs, nd, hh⟩ := id h1
    refine ⟨_, rfl, _, dx, _, rfl, hh.ob, as[i], s, rfl, h1, fun H2 e2 => ⟨_, rfl, iteF ?_⟩⟩
    refine ⟨_, rfl, as[i], s, rfl, h1.mono e2, h2, fun H3 e3 => ⟨_, rfl, iteF ?_⟩⟩
    refine ⟨_, rfl, as[i], s, rfl, (h1.mono e2).mono e3, h2, fun L H4 e4 _ hL => ?_⟩
    refine ⟨L, _, rfl, .inl (.of hL), rfl, flat_ints _, _, rfl, ?_⟩
    rw [inV_ints]
    exact iteF ⟨⟨_, rfl⟩, ((e.trans e2).trans e3).trans e4⟩
theorem sc_calm_chain : FnScope ["setting"] ["setting"] (defScope s_calm_chain) := ⟨rfl, rfl, rfl, by decide +kernel, rfl, by decide +kernel, by decide +kernel⟩
def sp_calm_chain (K : PySem.W.Frag) : Sp := fun vs H Q _ => ∃ a s, vs = [.ref a] ∧ SetAt K H a s ∧ SetOk s ∧ ∀ L H', Same H H' → H L = none → ChainAt K H' L (chainOf s) → Q (.ref L) H'
theorem ok_calm_chain (T : TT K mg) : Cal P w K mg base 11 "calm_chain" (sp_calm_chain K) [] := by
  refine cal_of (f_calm_chain T) (g_calm_chain T) sc_calm_chain (fun _ _ _ _ _ _ us hl => match us, hl with | [_], _ => rfl) (fun vs H Q E h => ?_) (fun cdv A outer s H vs Q E hr h => ?_)
  · obtain ⟨a, s, rfl, hs, hok, k⟩ := h; rfl
  · obtain ⟨a, s, rfl, hs, hok, k⟩ := h
    refine ⟨_, (pss_one (ps_ret (pe_listZip rfl (by rfl) (b_list T) (by rfl) (b_zip T) (pa_cons (pe_fld (pv 0) rfl) (pa_cons (pe_c (ok_limits T) hr (by decide) (by rfl) (pa_cons (pv 0) pa_nil)) pa_nil))))), ?_⟩
    obtain ⟨dx, pm, pk, pc, pd, ms, cs, nd, h⟩ := id hs
    refine ⟨_, rfl, _, _, dx, _, _, rfl, h.ob, c_Setting T, n_Setting_makes T, stF_makes, ?_⟩
    refine ⟨_, rfl, a, s, rfl, hs, hok, fun L1 H1 e1 _ hL1 => ?_⟩
    have h1 := h.mono e1
    have hlen : ((lims s).map V.int).length = (ms.map V.ref).length := by rw [List.length_map, List.length_map, h.ml]; simp [lims]
    refine ⟨pm, L1, _, _, rfl, h1.mks, .of hL1, hlen, by rw [List.length_map, h.ml]; exact Nat.le_trans hok.2.1 (by decide), fun L H2 es e2 hL hes hl hel => ?_⟩
    refine k L H2 (e1.trans e2) (e1.free hL) ⟨es, .of hes, by rw [hl, List.length_map, h.ml]; simp [chainOf], fun i hop hi => ?_⟩
    unfold chainOf at hi
    rw [List.getElem?_map] at hi
    cases em : s.makes[i]? with
    | none => rw [em] at hi; cases hi
    | some m =>
      rw [em] at hi
      cases hi
      obtain ⟨am, q1, q2⟩ := (h1.mono e2).mat i m em
      have hi2 : i < s.makes.length := (List.getElem?_eq_some_iff.mp em).1
      have hie : i < es.length := by rw [hl, List.length_map, h.ml]; exact hi2
      obtain ⟨p, x, y, r1, r2, r3, r4⟩ := hel i _ (List.getElem?_eq_getElem hie)
      rw [List.getElem?_map, q1] at r2
      cases r2
      rw [List.getElem?_map, lims, List.getElem?_map, em] at r3
      cases r3
      refine ⟨_, List.getElem?_eq_getElem hie, p, am, r1, .of r4, m, q2, rfl, rfl⟩
theorem sc_common_hops : FnScope ["first", "second"] ["first", "second"] (defScope s_common_hops) := ⟨rfl, rfl, rfl, by decide +kernel, rfl, by decide +kernel, by decide +kernel⟩
def sp_common_hops (K : PySem.W.Frag) : Sp := fun vs H Q _ => ∃ a b s t, vs = [.ref a, .ref b] ∧ SetAt K H a s ∧ SetAt K H b t ∧ Q (.int ((min s.makes.length t.makes.length : Nat) : Int)) H
theorem ok_common_hops (T : TT K mg) : Cal P w K mg base 3 "common_hops" (sp_common_hops K) [] := by
  refine cal_of (f_common_hops T) (g_common_hops T) sc_common_hops (fun _ _ _ _ _ _ us hl => match us, hl with | [_, _], _ => rfl) (fun vs H Q E h => ?_) (fun cdv A outer s H vs Q E hr h => ?_)
  · obtain ⟨a, b, s, t, rfl, hs, ht, k⟩ := h; rfl
  · obtain ⟨a, b, s, t, rfl, hs, ht, k⟩ := h
    refine ⟨_, (pss_one (ps_ret (pe_callB (call_min2 rfl) (by rfl) (b_min T) (by decide +kernel) (pa_cons (pe_propS (ok_Setting_hops T) hr (by decide) (pv 0)) (pa_cons (pe_propS (ok_Setting_hops T) hr (by decide) (pv 1)) pa_nil))))), ?_⟩
    obtain ⟨dx, pm, pk, pc, pd, ms, cs, nd, h⟩ := id hs
    obtain ⟨dx', pm', pk', pc', pd', ms', cs', nd', h'⟩ := id ht
    refine ⟨_, rfl, _, dx, _, rfl, h.ob, a, s, rfl, hs, _, rfl, _, dx', _, rfl, h'.ob, b, t, rfl, ht, _, _, rfl, ?_⟩
    have : (if (t.makes.length : Int) < (s.makes.length : Int) then (t.makes.length : Int) else (s.makes.length : Int)) = ((min s.makes.length t.makes.length : Nat) : Int) := by
      split <;> omega
    rw [this]
    exact k
end
end K98
/-! K98 mathematics, part 1: breadth first search over words, shortlex by numbers. Words are reversed: the head is the last letter. -/
namespace Kb
/-- the number of a reversed word in base m: shortlex order is the order of numbers -/
def val (m : Nat) : List Nat → Nat
  | [] => 0
  | e :: u => val m u * m + e + 1
def dig (m : Nat) (w : List Nat) : Prop := ∀ d ∈ w, d < m
theorem dig_nil {m : Nat} : dig m [] := fun _ h => nomatch h
theorem dig_cons {m e : Nat} {u : List Nat} (h : dig m (e :: u)) : e < m ∧ dig m u := ⟨h e (List.mem_cons_self ..), fun d hd => h d (List.mem_cons_of_mem _ hd)⟩
theorem dig_mk {m e : Nat} {u : List Nat} (h : e < m) (h2 : dig m u) : dig m (e :: u) := fun d hd => by
  rcases List.mem_cons.mp hd with q | q
  · rw [q]; exact h
  · exact h2 d q
theorem val_lt {m a b d e : Nat} (h : a < b) (hd : d < m) : a * m + d + 1 < b * m + e + 1 := by
  have h1 : a * m + m ≤ b * m := by
    have h2 : (a + 1) * m ≤ b * m := Nat.mul_le_mul_right m h
    rw [Nat.add_mul, Nat.one_mul] at h2
    exact h2
  omega
theorem val_inj {m : Nat} : ∀ {u v : List Nat}, dig m u → dig m v → val m u = val m v → u = v
  | [], [], _, _, _ => rfl
  | [], e :: v, _, _, h => by simp only [val] at h; omega
  | e :: u, [], _, _, h => by simp only [val] at h; omega
  | e :: u, d :: v, hu, hv, h => by
    obtain ⟨h1, h2⟩ := dig_cons hu
    obtain ⟨h3, h4⟩ := dig_cons hv
    simp only [val] at h
    have e1 : val m u = val m v := by
      rcases Nat.lt_trichotomy (val m u) (val m v) with q | q | q
      · have := val_lt (e := d) q h1; omega
      · exact q
      · have := val_lt (e := e) q h3; omega
    rw [e1] at h
    have e2 : e = d := by omega
    rw [e2, val_inj h2 h4 e1]

section
variable {P : Type} (m : Nat) (p0 : P) (nx : P → Nat → P) (ok : P → Nat → Bool)
/-- the state behind a word all of whose steps are ok -/
def run : List Nat → Option P
  | [] => some p0
  | e :: u => match run u with
    | some p => if ok p e = true then some (nx p e) else none
    | none => none
def Bad (w : List Nat) : Prop := ∃ e u p, w = e :: u ∧ run p0 nx ok u = some p ∧ ok p e = false
/-- entries of the search: a state with its word. c: the number of the last pair that was looked at (0: none yet) -/
structure Inv (R : List (P × List Nat)) (at_ j : Nat) : Prop where
  pos : 0 < m
  first : R[0]? = some (p0, [])
  words : ∀ (x : P × List Nat), x ∈ R → dig m x.2 ∧ run p0 nx ok x.2 = some x.1
  nodup : (R.map (·.1)).Nodup
  mono : ∀ (i k : Nat) (x y : P × List Nat), i < k → R[i]? = some x → R[k]? = some y → val m x.2 < val m y.2
  atR : at_ ≤ R.length
  jm : j ≤ m
  jz : at_ = R.length → j = 0
  done : ∀ (i e : Nat) (x : P × List Nat), R[i]? = some x → e < m → (i < at_ ∨ (i = at_ ∧ e < j)) → ok x.1 e = true ∧ ∃ y ∈ R, y.1 = nx x.1 e ∧ val m y.2 ≤ val m (e :: x.2)
  late : ∀ (i : Nat) (x y : P × List Nat), R[at_]? = some x → y ∈ R → val m y.2 ≤ val m x.2 * m + j ∨ y.2 = []
  lateE : at_ = R.length → True
end
section
variable {P : Type} {m : Nat} {p0 : P} {nx : P → Nat → P} {ok : P → Nat → Bool} {R : List (P × List Nat)} {a j : Nat}
theorem inv_start (hm : 0 < m) : Inv m p0 nx ok [(p0, [])] 0 0 where
  pos := hm
  first := rfl
  words := fun x hx => by
    have e : x = (p0, []) := by simpa using hx
    subst e
    exact ⟨dig_nil, rfl⟩
  nodup := by simp
  mono := fun i k x y h hx hy => by
    cases k with
    | zero => omega
    | succ k => simp at hy
  atR := by simp
  jm := Nat.zero_le _
  jz := fun _ => rfl
  done := fun i e x hx he h => by rcases h with h | h <;> omega
  late := fun i x y _ hy => by
    have e : y = (p0, []) := by simpa using hy
    subst e
    exact .inr rfl
  lateE := fun _ => trivial
/-- what was found among the words up to a number -/
theorem cover (I : Inv m p0 nx ok R a j) (c : Nat) (hc : ∀ (i e : Nat) (x : P × List Nat), R[i]? = some x → e < m → val m (e :: x.2) ≤ c → i < a ∨ (i = a ∧ e < j)) :
    ∀ (w : List Nat) (q : P), dig m w → val m w ≤ c → run p0 nx ok w = some q → ∃ y ∈ R, y.1 = q ∧ val m y.2 ≤ val m w
  | [], q, _, _, h => by
    have e : p0 = q := Option.some.inj h
    exact ⟨(p0, []), List.mem_of_getElem? I.first, e, Nat.le_refl _⟩
  | e :: u, q, hd, hv, h => by
    obtain ⟨he, hu⟩ := dig_cons hd
    have h1 : (match run p0 nx ok u with | some p => if ok p e = true then some (nx p e) else none | none => none) = some q := h
    cases hr : run p0 nx ok u with
    | none => rw [hr] at h1; cases h1
    | some p =>
      rw [hr] at h1
      have hvu : val m u ≤ c := by
        have h2 : val m u * m + e + 1 ≤ c := hv
        have h3 : val m u * 1 ≤ val m u * m := Nat.mul_le_mul_left _ I.pos
        omega
      obtain ⟨x, hx, e1, e2⟩ := cover I c hc u p hu hvu hr
      obtain ⟨i, hi⟩ := List.mem_iff_getElem?.mp hx
      have hle : val m (e :: x.2) ≤ val m (e :: u) := by
        show val m x.2 * m + e + 1 ≤ val m u * m + e + 1
        have := Nat.mul_le_mul_right m e2
        omega
      obtain ⟨o1, y, hy, y1, y2⟩ := I.done i e x hi he (hc i e x hi he (Nat.le_trans hle hv))
      have h4 : (if ok p e = true then some (nx p e) else none) = some q := h1
      rw [e1] at o1 y1
      rw [if_pos o1] at h4
      exact ⟨y, hy, y1.trans (Option.some.inj h4), Nat.le_trans y2 hle⟩
theorem mono_le (I : Inv m p0 nx ok R a j) {i k : Nat} {x y : P × List Nat} (hx : R[i]? = some x) (hy : R[k]? = some y) (h : val m x.2 ≤ val m y.2) : i ≤ k := by
  rcases Nat.lt_or_ge k i with q | q
  · have := I.mono k i y x q hy hx; omega
  · exact q
/-- a pair is looked at and is not ok: the word is the least bad one -/
theorem inv_bad (I : Inv m p0 nx ok R a j) {x : P × List Nat} (hx : R[a]? = some x) (hj : j < m) (hb : ok x.1 j = false) :
    dig m (j :: x.2) ∧ Bad p0 nx ok (j :: x.2) ∧ ∀ w, dig m w → Bad p0 nx ok w → val m (j :: x.2) ≤ val m w := by
  obtain ⟨w1, w2⟩ := I.words x (List.mem_of_getElem? hx)
  refine ⟨dig_mk hj w1, ⟨j, x.2, x.1, rfl, w2, hb⟩, fun w hw hB => ?_⟩
  obtain ⟨e, u, p, rfl, hr, hn⟩ := hB
  obtain ⟨he, hu⟩ := dig_cons hw
  refine Classical.byContradiction fun hc => ?_
  have hlt : val m (e :: u) < val m (j :: x.2) := Nat.lt_of_not_le hc
  have key : ∀ (i e : Nat) (y : P × List Nat), R[i]? = some y → e < m → val m (e :: y.2) < val m (j :: x.2) → i < a ∨ (i = a ∧ e < j) := fun i e y hi he h => by
    rcases Nat.lt_or_ge i a with q | q
    · exact .inl q
    · refine .inr ?_
      have h1 : val m y.2 * m + e + 1 < val m x.2 * m + j + 1 := h
      rcases Nat.lt_or_ge a i with q2 | q2
      · have h2 := I.mono a i x y q2 hx hi
        have := val_lt (e := e) h2 hj
        omega
      · have ei : i = a := by omega
        subst ei
        rw [hx] at hi
        have ey := Option.some.inj hi
        subst ey
        exact ⟨rfl, by omega⟩
  have hvu : val m u ≤ val m (e :: u) := by
    show val m u ≤ val m u * m + e + 1
    have h3 : val m u * 1 ≤ val m u * m := Nat.mul_le_mul_left _ I.pos
    omega
  obtain ⟨y, hy, y1, y2⟩ := cover I (val m (e :: u)) (fun i d z hi hd h => key i d z hi hd (Nat.lt_of_le_of_lt h hlt)) u p hu hvu hr
  obtain ⟨i, hi⟩ := List.mem_iff_getElem?.mp hy
  have hle : val m (e :: y.2) ≤ val m (e :: u) := by
    show val m y.2 * m + e + 1 ≤ val m u * m + e + 1
    have := Nat.mul_le_mul_right m y2
    omega
  obtain ⟨o1, _⟩ := I.done i e y hi he (key i e y hi he (Nat.lt_of_le_of_lt hle hlt))
  rw [y1, hn] at o1
  cases o1
/-- the next pair is ok and leads to a state that was met -/
theorem inv_old (I : Inv m p0 nx ok R a j) {x : P × List Nat} (hx : R[a]? = some x) (hj : j < m) (ho : ok x.1 j = true) (hm : nx x.1 j ∈ R.map (·.1)) : Inv m p0 nx ok R a (j + 1) where
  pos := I.pos
  first := I.first
  words := I.words
  nodup := I.nodup
  mono := I.mono
  atR := I.atR
  jm := hj
  jz := fun h => by
    have := (List.getElem?_eq_some_iff.mp hx).1
    omega
  done := fun i e y hy he h => by
    rcases h with h | ⟨h, h2⟩
    · exact I.done i e y hy he (.inl h)
    · rcases Nat.lt_or_ge e j with q | q
      · exact I.done i e y hy he (.inr ⟨h, q⟩)
      · have ee : e = j := by omega
        subst ee h
        rw [hx] at hy
        have ey := Option.some.inj hy
        subst ey
        refine ⟨ho, ?_⟩
        obtain ⟨z, hz, e1⟩ := List.mem_map.mp hm
        refine ⟨z, hz, e1, ?_⟩
        rcases I.late 0 x z hx hz with l | l
        · show val m z.2 ≤ val m x.2 * m + e + 1
          omega
        · rw [l]
          exact Nat.zero_le _
  late := fun i y z hy hz => by
    rw [hx] at hy
    have ey := Option.some.inj hy
    subst ey
    rcases I.late 0 x z hx hz with l | l
    · exact .inl (by omega)
    · exact .inr l
  lateE := fun _ => trivial
/-- .. to a new state -/
theorem inv_new (I : Inv m p0 nx ok R a j) {x : P × List Nat} (hx : R[a]? = some x) (hj : j < m) (ho : ok x.1 j = true) (hm : nx x.1 j ∉ R.map (·.1)) : Inv m p0 nx ok (R ++ [(nx x.1 j, j :: x.2)]) a (j + 1) := by
  have ha : a < R.length := (List.getElem?_eq_some_iff.mp hx).1
  obtain ⟨w1, w2⟩ := I.words x (List.mem_of_getElem? hx)
  have old : ∀ {i : Nat} {y : P × List Nat}, (R ++ [(nx x.1 j, j :: x.2)])[i]? = some y → i < R.length → R[i]? = some y := fun h hi => by rw [List.getElem?_append_left hi] at h; exact h
  have new : ∀ {i : Nat} {y : P × List Nat}, (R ++ [(nx x.1 j, j :: x.2)])[i]? = some y → R.length ≤ i → i = R.length ∧ y = (nx x.1 j, j :: x.2) := fun {i y} h hi => by
    rw [List.getElem?_append_right hi] at h
    cases q : i - R.length with
    | zero =>
      rw [q] at h
      exact ⟨by omega, (Option.some.inj h).symm⟩
    | succ n =>
      rw [q] at h
      simp at h
  have hlate : ∀ z ∈ R, val m z.2 < val m (j :: x.2) := fun z hz => by
    rcases I.late 0 x z hx hz with l | l
    · show val m z.2 < val m x.2 * m + j + 1
      omega
    · rw [l]
      exact Nat.succ_pos _
  refine ⟨I.pos, ?_, ?_, ?_, ?_, ?_, hj, ?_, ?_, ?_, fun _ => trivial⟩
  · rw [List.getElem?_append_left (by omega)]
    exact I.first
  · intro y hy
    rcases List.mem_append.mp hy with q | q
    · exact I.words y q
    · have e : y = (nx x.1 j, j :: x.2) := by simpa using q
      subst e
      refine ⟨dig_mk hj w1, ?_⟩
      show (match run p0 nx ok x.2 with | some p => if ok p j = true then some (nx p j) else none | none => none) = some (nx x.1 j)
      rw [w2]
      exact if_pos ho
  · rw [List.map_append, List.nodup_append]
    refine ⟨I.nodup, by simp, fun y hy z hz => ?_⟩
    have e : z = nx x.1 j := by simpa using hz
    subst e
    intro q
    exact hm (q ▸ hy)
  · intro i k y z hik hy hz
    rcases Nat.lt_or_ge k R.length with q | q
    · exact I.mono i k y z hik (old hy (by omega)) (old hz q)
    · obtain ⟨ek, ez⟩ := new hz q
      subst ez
      exact hlate y (List.mem_of_getElem? (old hy (by omega)))
  · rw [List.length_append]; omega
  · intro h
    rw [List.length_append] at h
    have h2 : a = R.length + 1 := h
    omega
  · intro i e y hy he h
    have hi : i < R.length := by rcases h with h | h <;> omega
    have hy' := old hy hi
    have up : (∃ z ∈ R, z.1 = nx y.1 e ∧ val m z.2 ≤ val m (e :: y.2)) → ∃ z ∈ R ++ [(nx x.1 j, j :: x.2)], z.1 = nx y.1 e ∧ val m z.2 ≤ val m (e :: y.2) := fun ⟨z, hz, q⟩ => ⟨z, List.mem_append_left _ hz, q⟩
    rcases h with h | ⟨h, h2⟩
    · exact (I.done i e y hy' he (.inl h)).imp id up
    · rcases Nat.lt_or_ge e j with q | q
      · exact (I.done i e y hy' he (.inr ⟨h, q⟩)).imp id up
      · have ee : e = j := by omega
        subst ee h
        rw [hx] at hy'
        have ey := Option.some.inj hy'
        subst ey
        exact ⟨ho, _, List.mem_append_right _ (List.mem_singleton.mpr rfl), rfl, Nat.le_refl _⟩
  · intro i y z hy hz
    have ey := old hy ha
    rw [hx] at ey
    have ey := Option.some.inj ey
    subst ey
    rcases List.mem_append.mp hz with q | q
    · rcases I.late 0 x z hx q with l | l
      · exact .inl (by omega)
      · exact .inr l
    · have e : z = (nx x.1 j, j :: x.2) := by simpa using q
      subst e
      exact .inl (Nat.le_refl _)
/-- all letters of a state were looked at -/
theorem inv_turn (I : Inv m p0 nx ok R a m) (ha : a < R.length) : Inv m p0 nx ok R (a + 1) 0 where
  pos := I.pos
  first := I.first
  words := I.words
  nodup := I.nodup
  mono := I.mono
  atR := ha
  jm := Nat.zero_le _
  jz := fun _ => rfl
  done := fun i e y hy he h => by
    rcases h with h | h
    · rcases Nat.lt_or_ge i a with q | q
      · exact I.done i e y hy he (.inl q)
      · exact I.done i e y hy he (.inr ⟨by omega, he⟩)
    · omega
  late := fun i x y hx hy => by
    obtain ⟨z, hz⟩ : ∃ z, R[a]? = some z := ⟨R[a], List.getElem?_eq_getElem ha⟩
    rcases I.late 0 z y hz hy with l | l
    · refine .inl ?_
      have h1 := I.mono a (a + 1) z x (Nat.lt_succ_self _) hz hx
      have h2 : (val m z.2 + 1) * m ≤ val m x.2 * m := Nat.mul_le_mul_right m h1
      rw [Nat.add_mul, Nat.one_mul] at h2
      omega
    · exact .inr l
  lateE := fun _ => trivial
/-- the end: a closed set of states -/
theorem inv_end (I : Inv m p0 nx ok R R.length j) : (∀ p ∈ R.map (·.1), ∀ e, e < m → ok p e = true ∧ nx p e ∈ R.map (·.1)) ∧ p0 ∈ R.map (·.1) := by
  refine ⟨fun p hp e he => ?_, List.mem_map.mpr ⟨_, List.mem_of_getElem? I.first, rfl⟩⟩
  obtain ⟨x, hx, rfl⟩ := List.mem_map.mp hp
  obtain ⟨i, hi⟩ := List.mem_iff_getElem?.mp hx
  obtain ⟨o1, y, hy, y1, _⟩ := I.done i e x hi he (.inl (List.getElem?_eq_some_iff.mp hi).1)
  exact ⟨o1, List.mem_map.mpr ⟨y, hy, y1⟩⟩
/-- over a closed set no word is bad -/
theorem closed_run {S : P → Prop} (h0 : S p0) (hc : ∀ p, S p → ∀ e, e < m → ok p e = true ∧ S (nx p e)) : ∀ (w : List Nat), dig m w → ∃ p, run p0 nx ok w = some p ∧ S p
  | [], _ => ⟨p0, rfl, h0⟩
  | e :: u, hw => by
    obtain ⟨he, hu⟩ := dig_cons hw
    obtain ⟨p, hp, hs⟩ := closed_run h0 hc u hu
    obtain ⟨o, hn⟩ := hc p hs e he
    refine ⟨nx p e, ?_, hn⟩
    show (match run p0 nx ok u with | some p => if ok p e = true then some (nx p e) else none | none => none) = some (nx p e)
    rw [hp]
    exact if_pos o
theorem closed_good {S : P → Prop} (h0 : S p0) (hc : ∀ p, S p → ∀ e, e < m → ok p e = true ∧ S (nx p e)) (w : List Nat) (hw : dig m w) : ¬ Bad p0 nx ok w := by
  rintro ⟨e, u, p, rfl, hr, hn⟩
  obtain ⟨he, hu⟩ := dig_cons hw
  obtain ⟨q, hq, hs⟩ := closed_run h0 hc u hu
  rw [hr] at hq
  have e1 := Option.some.inj hq
  subst e1
  rw [(hc p hs e he).1] at hn
  cases hn
end
end Kb
set_option Elab.async false
set_option linter.all false
set_option maxRecDepth 100000
set_option maxHeartbeats 4000000
namespace K98
open PySem PySem.Spec PyProof.Rows L2 Ru He6 TL
open C8 (Cal pe_c)
/-! ### what compare says -/
inductive Verd where
  | same (R : List (Row × Row))
  | parted (w : List Nat)
def evN (n j : Nat) : Ev := (evs n).getD j .wait
def nxN (c1 c2 : Chain) (n : Nat) (p : Row × Row) (j : Nat) : Row × Row := stepB c1 c2 p (evN n j)
def okN (ages : Bool) (c1 c2 : Chain) (n : Nat) (p : Row × Row) (j : Nat) : Bool := alikeB ages c1 c2 p (evN n j)
def lenOk (c1 c2 : Chain) (p : Row × Row) : Prop := p.1.length = c1.length ∧ p.2.length = c2.length
def dV (n : Nat) : Verd → PyData
  | .same R => .tuple [.str "same", .list (R.map dP)]
  | .parted w => .tuple [.str "parted", .list ((wordEv (evs n) w.reverse).map dEv)]
/-- a set of pairs that no event leaves -/
def stOk (c : Chain) (st : Row) : Prop := st.length = c.length ∧ ∀ (i : Nat) (b a s : Int) (h : Hop), st[i]? = some (some (b, a, s)) → c[i]? = some h → 0 ≤ b ∧ 0 ≤ a ∧ 0 ≤ s ∧ a < h.lim
def Univ (c1 c2 : Chain) (n : Nat) (U : List (Row × Row)) : Prop := U.length ≤ 900000 ∧ p0 c1 c2 ∈ U ∧ ∀ p ∈ U, (stOk c1 p.1 ∧ stOk c2 p.2) ∧ ∀ j, j < n + 2 → nxN c1 c2 n p j ∈ U
def IsV (ages : Bool) (c1 c2 : Chain) (n : Nat) : Verd → Prop
  | .same R => R.length ≤ 900000 ∧ R.Nodup ∧ p0 c1 c2 ∈ R ∧ (∀ p ∈ R, stOk c1 p.1 ∧ stOk c2 p.2) ∧ ∀ p ∈ R, ∀ j, j < n + 2 → okN ages c1 c2 n p j = true ∧ nxN c1 c2 n p j ∈ R
  | .parted w => w.length ≤ 900001 ∧ Kb.dig (n + 2) w ∧ Kb.Bad (p0 c1 c2) (nxN c1 c2 n) (okN ages c1 c2 n) w ∧ ∀ u, Kb.dig (n + 2) u → Kb.Bad (p0 c1 c2) (nxN c1 c2 n) (okN ages c1 c2 n) u → Kb.val (n + 2) w ≤ Kb.val (n + 2) u
theorem evs_len (n : Nat) : (evs n).length = n + 2 := by simp [evs]
theorem evs_get {n j : Nat} (h : j < n + 2) : (evs n)[j]? = some (evN n j) := by
  unfold evN
  rw [List.getD_eq_getElem?_getD, List.getElem?_eq_getElem (by rw [evs_len]; exact h)]
  rfl
theorem evN_ok {n j m : Nat} (hm : n ≤ m) : evOk m (evN n j) := by
  by_cases h : j < n + 2
  · have h1 := List.mem_of_getElem? (evs_get h)
    unfold evs at h1
    rcases List.mem_append.mp h1 with h2 | h2
    · rcases List.mem_cons.mp h2 with h3 | h3
      · rw [h3]; trivial
      · rw [List.mem_singleton.mp h3]; trivial
    · obtain ⟨i, hi, e⟩ := List.mem_map.mp h2
      rw [← e]
      have := List.mem_range.mp hi
      exact ⟨by omega, by omega⟩
  · have : evN n j = .wait := by
      unfold evN
      rw [List.getD_eq_getElem?_getD, List.getElem?_eq_none (by rw [evs_len]; omega)]
      rfl
    rw [this]; trivial
theorem joined_len (f s : Row) : (joined f s).1.length = f.length ∧ (joined f s).2.length = s.length := by
  unfold joined
  exact ⟨List.length_map .., List.length_map ..⟩
theorem stepB_len {c1 c2 : Chain} {p : Row × Row} {e : Ev} (h : lenOk c1 c2 p) : lenOk c1 c2 (stepB c1 c2 p e) := by
  obtain ⟨h1, h2⟩ := h
  have q := joined_len (step c1 p.1 e).1 (step c2 p.2 e).1
  exact ⟨q.1.trans (step_len h1), q.2.trans (step_len h2)⟩
theorem sub_len {α : Type} [DecidableEq α] : ∀ {l m : List α}, l.Nodup → (∀ x ∈ l, x ∈ m) → l.length ≤ m.length
  | [], _, _, _ => Nat.zero_le _
  | x :: l, m, hn, hs => by
    have hx := hs x (List.mem_cons_self ..)
    have h1 : l.length ≤ (m.erase x).length := sub_len (List.nodup_cons.mp hn).2 fun y hy => (List.mem_erase_of_ne (fun e => (List.nodup_cons.mp hn).1 (by rw [← e]; exact hy))).mpr (hs y (List.mem_cons_of_mem _ hy))
    rw [List.length_erase_of_mem hx] at h1
    have := List.length_pos_of_mem hx
    simp only [List.length_cons]
    omega
structure RInv (ages : Bool) (c1 c2 : Chain) (n : Nat) (U : List (Row × Row)) (R : Reach) (a j : Nat) : Prop where
  inv : Kb.Inv (n + 2) (p0 c1 c2) (nxN c1 c2 n) (okN ages c1 c2 n) R a j
  lens : ∀ x ∈ R, lenOk c1 c2 x.1
  inU : ∀ x ∈ R, x.1 ∈ U
  wl : ∀ x ∈ R, x.2.length < R.length
theorem RInv.len {ages : Bool} {c1 c2 : Chain} {n : Nat} {U : List (Row × Row)} {R : Reach} {a j : Nat} (I : RInv ages c1 c2 n U R a j) : R.length ≤ U.length := by
  have := sub_len I.inv.nodup fun y hy => by
    obtain ⟨x, hx, rfl⟩ := List.mem_map.mp hy
    exact I.inU x hx
  rwa [List.length_map] at this
/-- the heap of the search -/
structure HInv (P : Program) (w : World) (K : PySem.W.Frag) (H : Hp) (d L : Addr) (n : Nat) (R : Reach) (xs : List NEnt) (rs : List V) : Prop where
  hd : H d = some (NDict P w d xs)
  ok : ArrOk K H xs R (evs n)
  hl : H L = some (.lst rs)
  rl : rs.length = R.length
  rd : ∀ (i : Nat) (v : V), rs[i]? = some v → ∃ x, R[i]? = some x ∧ Dp K H v (dP x.1)
theorem HInv.mono {P : Program} {w : World} {K : PySem.W.Frag} {H H' : Hp} {d L : Addr} {n : Nat} {R : Reach} {xs : List NEnt} {rs : List V} (e : Same H H') (h : HInv P w K H d L n R xs rs) : HInv P w K H' d L n R xs rs :=
  ⟨e _ _ h.hd, h.ok.mono (.of e), e _ _ h.hl, h.rl, fun i v hi => let ⟨x, h1, h2⟩ := h.rd i v hi; ⟨x, h1, Dp.mono e _ _ h2⟩⟩
section
variable {P : Program} {w : World} {K : PySem.W.Frag} {mg : Str → Option Value} {base : Heap}
theorem sc_compare : FnScope ["first", "second", "ages", "chains", "events", "beginning", "arrivals", "reached", "at", "pair", "event", "following", "alike"] ["first", "second", "ages"] (defScope s_compare) := ⟨rfl, rfl, rfl, by decide +kernel, rfl, by decide +kernel, by decide +kernel⟩
def sp_compare (K : PySem.W.Frag) : Sp := fun vs H Q _ => ∃ a b ages s t U, vs = [.ref a, .ref b, .bl ages] ∧ SetAt K H a s ∧ SetAt K H b t ∧ SetOk s ∧ SetOk t ∧ Univ (chainOf s) (chainOf t) (min s.makes.length t.makes.length) U ∧ ∀ v' H' V, Same H H' → IsV ages (chainOf s) (chainOf t) (min s.makes.length t.makes.length) V → Dp K H' v' (dV (min s.makes.length t.makes.length) V) → Q v' H'
theorem ok_compare (T : TT K mg) : FnK P w K mg base 14 "compare" s_compare [(("ages":Str),V.bl true)] ["first", "second", "ages"] (sp_compare K) := by
  refine fnk_of (f_compare T) (g_compare T) sc_compare (fun vs H Q E h => ?_) (fun cdv A outer s H vs Q E hr h => ?_)
  · obtain ⟨a, b, ages, s, t, U, rfl, hs, ht, sok, tok, hU, k⟩ := h; rfl
  · obtain ⟨a, b, ages, s, t, U, rfl, hs, ht, sok, tok, hU, k⟩ := h
    refine ⟨_, (pss_cons (ps_expr (pe_callR (ok_need_calm T) hr (by decide) (by rfl) (pa_cons (pv 0) (pa_cons (pv 1) pa_nil))))
      (pss_cons (ps_set (i := 3) sc_compare.nd rfl (.inl rfl) (pe_tup (pa_cons (pe_c (ok_calm_chain T) hr (by decide) (by rfl) (pa_cons (pv 0) pa_nil)) (pa_cons (pe_c (ok_calm_chain T) hr (by decide) (by rfl) (pa_cons (pv 1) pa_nil)) pa_nil))))
      (pss_cons (ps_set (i := 4) sc_compare.nd rfl (.inl rfl) (pe_c (ok_common_events T) hr (by decide) (by rfl) (pa_cons (pe_c (ok_common_hops T) hr (by decide) (by rfl) (pa_cons (pv 0) (pa_cons (pv 1) pa_nil))) pa_nil)))
      (pss_cons (ps_set (i := 5) sc_compare.nd rfl (.inl rfl) (pe_c (ok_empty_pair T) hr (by decide) (by rfl) (pa_cons (pv 3) pa_nil)))
      (pss_cons (ps_set (i := 6) sc_compare.nd rfl (.inl rfl) (pe_none1 hr.units (pv 5) pe_non))
      (pss_cons (ps_set (i := 7) sc_compare.nd rfl (.inl rfl) (pe_lst (pa_cons (pv 5) pa_nil)))
      (pss_cons (ps_set (i := 8) sc_compare.nd rfl (.inl rfl) pe_int)
      (pss_cons (ps_while PassesOwn.never (pt_cmpR op_lt (pv 8) (pe_callB call_len_seq (by rfl) (b_len T) PySem.boot_len (pa_cons (pv 7) pa_nil)) (nomark _))
      (pss_cons (ps_set (i := 9) sc_compare.nd rfl (.inl rfl) (pe_ix ix_list (pv 7) (pv 8) (fun _ _ => rfl)))
      (pss_cons (ps_aug (i := 8) sc_compare.nd rfl (.inl rfl) pe_int ip_add)
      (pss_one (ps_for PassesOwn.never rfl (pi_list (pv 4)) (pg_name (i := 10) sc_compare.nd rfl (.inl rfl))
      (pss_cons (ps_asg (pe_c (ok_step_both T) hr (by decide) (by rfl) (pa_cons (pv 3) (pa_cons (pv 9) (pa_cons (pv 10) (pa_cons (pv 2) pa_nil))))) (pg_tup (n := 2) rfl (pgs_cons (pg_name (i := 11) sc_compare.nd rfl (.inl rfl)) (pgs_cons (pg_name (i := 12) sc_compare.nd rfl (.inl rfl)) pgs_nil))))
      (pss_cons (ps_if (pt_not (pt_val (pv 12)))
      (pss_one (ps_ret (pe_tup (pa_cons pe_str (pa_cons (pe_op op_cat (pe_c (ok_story_to T) hr (by decide) (by rfl) (pa_cons (pv 6) (pa_cons (pv 9) pa_nil))) (pe_lst (pa_cons (pv 10) pa_nil))) pa_nil)))))
      pss_nil)
      (pss_one (ps_if (pt_cmpR (op_nnotin hr.units) (pv 11) (pv 6) rfl)
      (pss_cons (ps_asg (pe_tup (pa_cons (pv 9) (pa_cons (pv 10) pa_nil))) (pg_sub (pv 6) (pv 11) (set_nput hr.units)))
      (pss_one (ps_expr (pe_bm PySem.F.plainAttrs_list PySem.F.slot_list_append PySem.F.type_list_append mt_append (pv 7) (pa_cons (pv 11) pa_nil)))))
      pss_nil)))))))))
      (pss_one (ps_ret (pe_tup (pa_cons pe_str (pa_cons (pv 7) pa_nil))))))))))))), ?_⟩
    have hn1 : min s.makes.length t.makes.length ≤ (chainOf s).length := by unfold chainOf; rw [List.length_map]; omega
    have hn2 : min s.makes.length t.makes.length ≤ (chainOf t).length := by unfold chainOf; rw [List.length_map]; omega
    have hn20 : min s.makes.length t.makes.length ≤ 20 := Nat.le_trans (Nat.min_le_left _ _) sok.2.1
    have cl1 : 1 ≤ (chainOf s).length ∧ (chainOf s).length ≤ 20 := by unfold chainOf; rw [List.length_map]; exact ⟨sok.1, sok.2.1⟩
    have cl2 : 1 ≤ (chainOf t).length ∧ (chainOf t).length ≤ 20 := by unfold chainOf; rw [List.length_map]; exact ⟨tok.1, tok.2.1⟩
    refine ⟨_, rfl, _, rfl, [], [.ref a, .ref b], rfl, rfl, (by show 2 ≤ sizeLine; decide), fun sp hsp => ?_⟩
    have e0 : Same H (upd H sp (.tup [.ref a, .ref b])) := same_new hsp
    refine ⟨sp, [a, b], rfl, .of upd_same, fun x hx => ?_, fun H1 e1 => ?_⟩
    · rcases List.mem_cons.mp hx with h | h
      · rw [h]; exact ⟨s, hs.mono e0, sok⟩
      · rw [List.mem_singleton.mp h]; exact ⟨t, ht.mono e0, tok⟩
    replace e1 := e0.trans e1
    refine ⟨_, rfl, a, s, rfl, hs.mono e1, sok, fun l1 H2 e2 _ hc1 => ?_⟩
    refine ⟨_, rfl, b, t, rfl, (ht.mono e1).mono e2, tok, fun l2 H3 e3 _ hc2 => ?_⟩
    refine ⟨by show 2 ≤ sizeLine; decide, fun ct hct => ?_⟩
    have hch : ChainsAt K (upd H3 ct (.tup [.ref l1, .ref l2])) (.ref ct) (chainOf s) (chainOf t) := ⟨ct, l1, l2, rfl, .of upd_same, (hc1.mono e3).mono (same_new hct), hc2.mono (same_new hct)⟩
    have e4 : Same H (upd H3 ct (.tup [.ref l1, .ref l2])) := ((e1.trans e2).trans e3).trans (same_new hct)
    generalize upd H3 ct (.tup [.ref l1, .ref l2]) = H4 at hch e4
    refine ⟨_, rfl, _, rfl, a, b, s, t, rfl, hs.mono e4, ht.mono e4, ?_⟩
    refine ⟨min s.makes.length t.makes.length, rfl, hn20, fun le evv H5 e5 _ hle hev => ?_⟩
    generalize hn : min s.makes.length t.makes.length = n at *
    refine ⟨_, rfl, _, _, _, rfl, hch.mono e5, cl1.1, cl1.2, cl2.1, cl2.2, fun bp H6 e6 _ hbp => ?_⟩
    have hch6 := (hch.mono e5).mono e6
    have hle6 := e6 _ _ hle
    have hev6 := Dp.monoAll e6 _ _ hev
    have e06 := (e4.trans e5).trans e6
    clear hc1 hc2 hch hle hev
    intro d hd
    have ed : Same H6 (upd H6 d (NDict P w d [])) := same_new hd
    refine ⟨_, rfl, upd_same, bp, kP (p0 (chainOf s) (chainOf t)), rfl, ?_, ?_⟩
    · obtain ⟨_, q1, q2⟩ := key_at (Dp.mono ed _ _ hbp)
      cases q1; exact q2
    refine ⟨_, rfl, by show 1 ≤ sizeLine; decide, fun L hL => ?_⟩
    generalize hc1 : chainOf s = c1 at *
    generalize hc2 : chainOf t = c2 at *
    have eHc : ∀ {H' : Hp} {o : HO}, Same H6 H' → Same H6 (upd H' d o) := fun e => same_mut e hd
    have hL6 : H6 L = none := by
      have : (upd (upd H6 d (NDict P w d [])) d (NDict P w d [(kP (p0 c1 c2), bp, V.non)])) L = none := hL
      have hne : L ≠ d := fun z => by rw [z, upd_same] at this; cases this
      rw [upd_ne hne, upd_ne hne] at this
      exact this
    have hdL : d ≠ L := fun z => by
      have : (upd (upd H6 d (NDict P w d [])) d (NDict P w d [(kP (p0 c1 c2), bp, V.non)])) L = none := hL
      rw [← z, upd_same] at this; cases this
    have Ibegin : RInv ages c1 c2 n U [(p0 c1 c2, [])] 0 0 := ⟨Kb.inv_start (by omega), fun x hx => by rw [List.mem_singleton.mp hx]; exact ⟨List.length_replicate .., List.length_replicate ..⟩, fun x hx => by rw [List.mem_singleton.mp hx]; exact hU.2.1, fun x hx => by rw [List.mem_singleton.mp hx]; exact Nat.zero_lt_one⟩
    have eS : Same H6 (upd (upd (upd H6 d (NDict P w d [])) d (NDict P w d [(kP (p0 c1 c2), bp, V.non)])) L (.lst [.ref bp])) := same_mut (eHc ed) hL6
    have Hbegin : HInv P w K (upd (upd (upd H6 d (NDict P w d [])) d (NDict P w d [(kP (p0 c1 c2), bp, V.non)])) L (.lst [.ref bp])) d L n [(p0 c1 c2, [])] [(kP (p0 c1 c2), bp, V.non)] [.ref bp] := by
      refine ⟨by rw [upd_ne hdL]; exact upd_same, ⟨fun x hx => ?_, fun s' hs' => ?_, rfl, fun x hx => ?_⟩, upd_same, rfl, fun i v hi => ?_⟩
      · rw [List.mem_singleton.mp hx]
        exact ⟨.non, by simp [lookN], rfl⟩
      · by_cases c : kP (p0 c1 c2) = kP s'
        · rw [← kP_inj c]; exact List.mem_singleton.mpr rfl
        · simp [lookN, c] at hs'
      · rw [List.mem_singleton.mp hx]
        exact ⟨_, rfl, Dp.mono eS _ _ hbp⟩
      · cases i with
        | zero => cases hi; exact ⟨_, rfl, Dp.mono eS _ _ hbp⟩
        | succ i => cases hi
    refine sq_c (sq_c ?_)
    refine seqM (t := tWhile _ _) (fun σ H' => ∃ R xs rs x9 x10 x11 x12 at_, σ = [some (.ref a), some (.ref b), some (.bl ages), some (.ref ct), some (.ref le), some (.ref bp), some (.ref d), some (.ref L), some (.int at_), x9, x10, x11, x12] ∧ RInv ages c1 c2 n U R R.length 0 ∧ HInv P w K H' d L n R xs rs ∧ Same H6 H') (fun Nx hNx => ?_) ?_
    · refine while_c (fun σ H' => ∃ (R : Reach) (xs : List NEnt) (rs : List V) (x9 x10 x11 x12 : Option V) (at_ : Nat), σ = [some (.ref a), some (.ref b), some (.bl ages), some (.ref ct), some (.ref le), some (.ref bp), some (.ref d), some (.ref L), some (.int (at_ : Nat)), x9, x10, x11, x12] ∧ RInv ages c1 c2 n U R at_ 0 ∧ HInv P w K H' d L n R xs rs ∧ Same H6 H')
        (fun (σ : L2.St) _ => match σ[8]? with | some (some (V.int i)) => U.length + 1 - i.toNat | _ => 0) ⟨_, _, _, none, none, none, none, 0, rfl, Ibegin, Hbegin, eS⟩ ?_
      rintro σ H8 ⟨R, xs, rs, x9, x10, x11, x12, at_, rfl, I, HI, e8⟩
      have hRU := I.len
      by_cases cat : at_ < R.length
      · refine ⟨true, fun Z hZ => ⟨_, rfl, _, rfl, L, rs, rfl, .inl (.of HI.hl), at_, rs.length, rfl, rfl, _, rfl, ?_⟩, fun _ => ?_, fun z => by cases z⟩
        · rw [show decide ((at_ : Int) < (rs.length : Int)) = true from decide_eq_true (by rw [HI.rl]; omega)]; exact hZ
        have hra : rs[at_]? = some (rs[at_]'(by rw [HI.rl]; exact cat)) := List.getElem?_eq_getElem _
        generalize rs[at_]'(by rw [HI.rl]; exact cat) = pv at hra
        obtain ⟨x, hx, dpv⟩ := HI.rd at_ pv hra
        refine ⟨_, rfl, _, rfl, L, rs, at_, pv, rfl, rfl, .of HI.hl, atI_nat hra, ?_⟩
        refine ⟨_, rfl, _, _, rfl, rfl, ?_⟩
        refine ⟨_, rfl, le, rfl, ⟨evv, .of (e8 _ _ hle6)⟩, ?_⟩
        have hel : evv.length = n + 2 := by have := DpAll.len hev6; rw [List.length_map, evs_len] at this; exact this
        refine for_it (walk_list (xs := evv)) (fun j σ H' => ∃ (R : Reach) (xs : List NEnt) (rs : List V) (x10 x11 x12 : Option V), σ = [some (.ref a), some (.ref b), some (.bl ages), some (.ref ct), some (.ref le), some (.ref bp), some (.ref d), some (.ref L), some (.int ((at_ : Int) + 1)), some pv, x10, x11, x12] ∧ RInv ages c1 c2 n U R at_ j ∧ HInv P w K H' d L n R xs rs ∧ Same H6 H' ∧ R[at_]? = some x ∧ Dp K H' pv (dP x.1))
          ⟨R, xs, rs, x10, x11, x12, rfl, I, HI, e8, hx, dpv⟩ (fun j σ H' _ q => ?_) ?_ ?_
        · obtain ⟨_, _, _, _, _, _, _, _, _, q, _⟩ := q
          exact .of (q _ _ hle6)
        · rintro j ev σ H9 _ hj ⟨R, xs, rs, x10, x11, x12, rfl, I, HI, e9, hx, dpv⟩ ⟨rfl, hev⟩
          rw [hel] at hj
          obtain ⟨dd, hdd, dev⟩ := DpAll.get' hev6 hev
          rw [List.getElem?_map, evs_get hj] at hdd
          cases hdd
          have dev := Dp.mono e9 _ _ dev
          have hmem := List.mem_of_getElem? hx
          have hlen := I.lens x hmem
          have hRU := I.len
          refine ⟨_, rfl, _, rfl, _, rfl, _, rfl, ?_⟩
          refine ⟨.ref ct, pv, ev, ages, c1, c2, x.1, evN n j, rfl, hch6.mono e9, dpv, dev, evN_ok hn1, evN_ok hn2, hlen.1, hlen.2, cl1.1, cl1.2, cl2.1, cl2.2, fun r H10 e10 d10 => ?_⟩
          obtain ⟨rq, fv, av, rfl, hrq, dfv, dav⟩ := two_at d10
          have := dav.blI
          subst this
          refine ⟨rq, _, rfl, hrq, rfl, _, _, rfl, _, _, rfl, rfl, ?_⟩
          have HI := HI.mono e10
          have dpv := Dp.mono e10 _ _ dpv
          have dev := Dp.mono e10 _ _ dev
          have e10' := e9.trans e10
          obtain ⟨pa, rfl, kpa⟩ := key_at dpv
          cases cal : alikeB ages c1 c2 x.1 (evN n j) with
          | false =>
            refine ⟨_, rfl, _, rfl, iteT ?_⟩
            have hwl : x.2.length ≤ 900000 := Nat.le_trans (Nat.le_of_lt (I.wl x hmem)) (Nat.le_trans hRU hU.1)
            refine ⟨_, rfl, _, rfl, d, .ref pa, xs, R, evs n, x.1, x.2, rfl, HI.hd, HI.ok, dpv, hmem, Nat.le_trans hwl (by decide), fun L2' es2 H11 e11 _ hL2 des2 => ?_⟩
            refine ⟨_, rfl, by show 1 ≤ sizeLine; decide, fun l3 hl3 => ?_⟩
            have hL23 : (upd H11 l3 (.lst [ev])) L2' = some (.lst es2) := by rw [upd_ne (ne_of_none hL2 hl3)]; exact hL2
            have hes2 : es2.length ≤ 900000 := by
              have := DpAll.len des2
              rw [List.length_map] at this
              rw [this]
              exact Nat.le_trans (List.length_filterMap_le ..) (by rw [List.length_reverse]; exact hwl)
            refine ⟨L2', l3, es2, [ev], rfl, rfl, hL23, upd_same, Nat.le_trans (Nat.add_le_add_right hes2 1) (by decide), fun n4 hn4 => ⟨by show 2 ≤ sizeLine; decide, fun t5 ht5 => ?_⟩⟩
            obtain ⟨b1, b2, b3⟩ := Kb.inv_bad I.inv hx hj cal
            have e45 : Same H11 (upd (upd H11 l3 (.lst [ev])) n4 (.lst (es2 ++ [ev]))) := (same_new hl3).trans (same_new hn4)
            have eQ := (((e06.trans e10').trans e11).trans e45).trans (same_new (o := .tup [.str "parted", .ref n4]) ht5)
            refine k _ _ (.parted (j :: x.2)) eQ ⟨Nat.succ_le_succ hwl, b1, b2, b3⟩ ?_
            refine two_new ht5 (.str _) (.lst (.of upd_same) ?_)
            rw [List.reverse_cons, show wordEv (evs n) (x.2.reverse ++ [j]) = wordEv (evs n) x.2.reverse ++ [evN n j] by simp [wordEv, List.filterMap_append, evs_get hj], List.map_append]
            exact DpAll.append (Dp.monoAll e45 _ _ des2) (.cons (Dp.mono (e11.trans e45) _ _ dev) .nil)
          | true =>
            refine ⟨_, rfl, _, rfl, iteF ?_⟩
            obtain ⟨fa, rfl, kfa⟩ := key_at dfv
            refine ⟨_, rfl, _, rfl, fa, d, xs, kP (nxN c1 c2 n x.1 j), rfl, rfl, HI.hd, HI.ok.keysAt, kfa, ?_⟩
            cases clk : (lookN xs (kP (nxN c1 c2 n x.1 j))).isSome with
            | true =>
              refine ⟨_, rfl, iteF ⟨R, xs, rs, _, _, _, rfl, ⟨Kb.inv_old I.inv hx hj cal (HI.ok.only _ clk), I.lens, I.inU, I.wl⟩, HI, e10', hx, dpv⟩⟩
            | false =>
              have hnone : lookN xs (kP (nxN c1 c2 n x.1 j)) = none := by
                cases h : lookN xs (kP (nxN c1 c2 n x.1 j)) with
                | none => rfl
                | some _ => rw [h] at clk; cases clk
              have hnot : nxN c1 c2 n x.1 j ∉ R.map (·.1) := fun z => by
                obtain ⟨y, hy, e⟩ := List.mem_map.mp z
                obtain ⟨v, h1, _⟩ := HI.ok.look y hy
                rw [e, hnone] at h1; cases h1
              have hxsl : xs.length < sizeLine := by
                rw [HI.ok.len]
                exact Nat.lt_of_le_of_lt (Nat.le_trans hRU hU.1) (by decide)
              refine ⟨_, rfl, iteT ⟨_, rfl, _, rfl, by show 2 ≤ sizeLine; decide, fun t6 ht6 => ?_⟩⟩
              have e6' : Same H10 (upd H10 t6 (.tup [.ref pa, ev])) := same_new ht6
              have HI6 := HI.mono e6'
              refine ⟨_, rfl, _, rfl, fa, d, xs, kP (nxN c1 c2 n x.1 j), rfl, rfl, HI6.hd, HI6.ok.keysAt, kfa.mono e6', hxsl, ?_⟩
              rw [putN_new hnone]
              have eD : Same H6 (upd (upd H10 t6 (.tup [.ref pa, ev])) d (NDict P w d (xs ++ [(kP (nxN c1 c2 n x.1 j), fa, .ref t6)]))) := same_mut (e10'.trans e6') hd
              have hLD : (upd (upd H10 t6 (.tup [.ref pa, ev])) d (NDict P w d (xs ++ [(kP (nxN c1 c2 n x.1 j), fa, .ref t6)]))) L = some (.lst rs) := by
                rw [upd_ne (fun z => hdL z.symm)]; exact HI6.hl
              have hrsl : rs.length < sizeLine := by
                rw [HI6.rl]
                exact Nat.lt_of_le_of_lt (Nat.le_trans hRU hU.1) (by decide)
              refine ⟨_, rfl, .inl ⟨rfl, _, .of hLD⟩, _, rfl, L, rs, _, rfl, rfl, hLD, hrsl, ?_⟩
              have s1 : SameL H10 (upd (upd H10 t6 (.tup [.ref pa, ev])) d (NDict P w d (xs ++ [(kP (nxN c1 c2 n x.1 j), fa, .ref t6)]))) := (SameL.of e6').trans ((SameL.refl _).mutX HI6.hd)
              have s2 : SameL H10 (upd (upd (upd H10 t6 (.tup [.ref pa, ev])) d (NDict P w d (xs ++ [(kP (nxN c1 c2 n x.1 j), fa, .ref t6)]))) L (.lst (rs ++ [.ref fa]))) := s1.trans ((SameL.refl _).mut hLD)
              have ht6' : (upd (upd (upd H10 t6 (.tup [.ref pa, ev])) d (NDict P w d (xs ++ [(kP (nxN c1 c2 n x.1 j), fa, .ref t6)]))) L (.lst (rs ++ [.ref fa]))) t6 = some (.tup [.ref pa, ev]) := by
                have h1 : t6 ≠ L := fun z => by rw [z, HI.hl] at ht6; cases ht6
                have h2 : t6 ≠ d := fun z => by rw [z, HI.hd] at ht6; cases ht6
                rw [upd_ne h1, upd_ne h2]; exact upd_same
              refine ⟨R ++ [(nxN c1 c2 n x.1 j, j :: x.2)], xs ++ [(kP (nxN c1 c2 n x.1 j), fa, .ref t6)], rs ++ [.ref fa], _, _, _, rfl, ⟨Kb.inv_new I.inv hx hj cal hnot, fun y hy => ?_, fun y hy => ?_, fun y hy => ?_⟩, ⟨?_, ⟨fun y hy => ?_, fun s' hs' => ?_, ?_, fun y hy => ?_⟩, upd_same, ?_, fun i v hi => ?_⟩, same_mut eD hL6, ?_, Dp.monoL s2 _ _ (noL_dP _) dpv⟩
              · rcases List.mem_append.mp hy with h | h
                · exact I.lens y h
                · rw [List.mem_singleton.mp h]; exact stepB_len hlen
              · rcases List.mem_append.mp hy with h | h
                · exact I.inU y h
                · rw [List.mem_singleton.mp h]; exact (hU.2.2 _ (I.inU x hmem)).2 j hj
              · rw [List.length_append]
                rcases List.mem_append.mp hy with h | h
                · exact Nat.lt_succ_of_lt (I.wl y h)
                · rw [List.mem_singleton.mp h]; exact Nat.succ_lt_succ (I.wl x hmem)
              · rw [upd_ne hdL]; exact upd_same
              · rcases List.mem_append.mp hy with h | h
                · obtain ⟨v, h1, h2⟩ := HI.ok.look y h
                  refine ⟨v, ?_, h2.mono s2 fun _ z => List.mem_append_left _ z⟩
                  rw [← putN_new hnone, lookN_put hnone, if_neg (fun z => hnot (by rw [← kP_inj z]; exact List.mem_map.mpr ⟨y, h, rfl⟩))]
                  exact h1
                · rw [List.mem_singleton.mp h]
                  refine ⟨.ref t6, by rw [← putN_new hnone, lookN_put hnone, if_pos rfl], t6, pa, ev, x.1, evN n j, rfl, .of ht6', Dp.monoL s2 _ _ (noL_dP _) dpv, List.mem_append_left _ hmem, evs_get hj, Dp.monoL s2 _ _ (noL_dEv _) dev⟩
              · rw [← putN_new hnone, lookN_put hnone] at hs'
                rw [List.map_append]
                by_cases c : kP s' = kP (nxN c1 c2 n x.1 j)
                · rw [kP_inj c]; exact List.mem_append_right _ (List.mem_singleton.mpr rfl)
                · rw [if_neg c] at hs'
                  exact List.mem_append_left _ (HI.ok.only s' hs')
              · rw [List.length_append, List.length_append, HI.ok.len]; rfl
              · rcases List.mem_append.mp hy with h | h
                · obtain ⟨s', h1, h2⟩ := HI.ok.keys y h
                  exact ⟨s', h1, Dp.monoL s2 _ _ (noL_dP _) h2⟩
                · rw [List.mem_singleton.mp h]
                  exact ⟨_, rfl, Dp.monoL s2 _ _ (noL_dP _) dfv⟩
              · rw [List.length_append, List.length_append, HI.rl]; rfl
              · by_cases c : i < rs.length
                · rw [List.getElem?_append_left c] at hi
                  obtain ⟨y, h1, h2⟩ := HI.rd i v hi
                  exact ⟨y, by rw [List.getElem?_append_left (by rw [← HI.rl]; exact c)]; exact h1, Dp.monoL s2 _ _ (noL_dP _) h2⟩
                · rw [List.getElem?_append_right (by omega)] at hi
                  have hz : i - rs.length = 0 := by
                    have := (List.getElem?_eq_some_iff.mp hi).1
                    simp at this; omega
                  rw [hz] at hi
                  cases hi
                  refine ⟨(nxN c1 c2 n x.1 j, j :: x.2), ?_, Dp.monoL s2 _ _ (noL_dP _) dfv⟩
                  rw [List.getElem?_append_right (by rw [← HI.rl]; omega), ← HI.rl, hz]; rfl
              · rw [List.getElem?_append_left (List.getElem?_eq_some_iff.mp hx).1]; exact hx
        · rintro σ H9 ⟨R, xs, rs, x10, x11, x12, rfl, I, HI, e9, hx, dpv⟩
          rw [hel] at I
          have ha := (List.getElem?_eq_some_iff.mp hx).1
          refine ⟨⟨R, xs, rs, _, _, _, _, at_ + 1, rfl, ⟨Kb.inv_turn I.inv ha, I.lens, I.inU, I.wl⟩, HI, e9⟩, ?_⟩
          have := I.len
          show U.length + 1 - ((at_ : Int) + 1).toNat < U.length + 1 - (at_ : Int).toNat
          omega
      · have hat : at_ = R.length := Nat.le_antisymm I.inv.atR (by omega)
        subst hat
        refine ⟨false, fun Z hZ => ⟨_, rfl, _, rfl, L, rs, rfl, .inl (.of HI.hl), _, rs.length, rfl, rfl, _, rfl, ?_⟩, (fun z => by cases z), fun _ => hNx _ _ ⟨R, xs, rs, _, _, _, _, _, rfl, I, HI, e8⟩⟩
        rw [show decide ((R.length : Int) < (rs.length : Int)) = false from decide_eq_false (by rw [HI.rl]; omega)]; exact hZ
    rintro _ H8 ⟨R, xs, rs, x9, x10, x11, x12, at_, rfl, I, HI, e8⟩
    refine ⟨_, rfl, by show 2 ≤ sizeLine; decide, fun t5 ht5 => ?_⟩
    have hrl := I.len
    obtain ⟨q1, q2⟩ := Kb.inv_end I.inv
    refine k _ _ (.same (R.map (·.1))) ((e06.trans e8).trans (same_new ht5)) ⟨by rw [List.length_map]; exact Nat.le_trans hrl hU.1, I.inv.nodup, q2, fun p hp => ?_, q1⟩ ?_
    · obtain ⟨y, hy, rfl⟩ := List.mem_map.mp hp
      exact (hU.2.2 _ (I.inU y hy)).1
    · refine two_new ht5 (.str _) (.lst (.of HI.hl) (dpAll_of (by rw [HI.rl]; simp) fun i v hi => ?_))
      obtain ⟨y, h1, h2⟩ := HI.rd i v hi
      exact ⟨dP y.1, by simp [h1], h2⟩
end
end K98
set_option Elab.async false
set_option linter.all false
set_option maxRecDepth 100000
set_option maxHeartbeats 4000000
namespace K98
open PySem PySem.Spec PyProof.Rows L2 Ru He6 TL
open C8 (Cal pe_c)
theorem tyT {K : PySem.W.Frag} {H : Hp} {a : Addr} {xs : List V} (h : SqT K H a xs) : TyX K H (.ref a) (.type "tuple") := by
  rcases h with (h | ⟨o, h⟩) | ⟨o, its, n, h1, h2, _⟩
  · exact .base (.tup h)
  · exact .fTuple h
  · exact .kTuple h1 h2
theorem tyL {K : PySem.W.Frag} {H : Hp} {a : Addr} {xs : List V} (h : SqL K H a xs) : TyX K H (.ref a) (.type "list") := by
  rcases h with (h | ⟨o, h⟩) | ⟨o, its, n, h1, h2, _⟩
  · exact .base (.lst h)
  · exact .base (.frz h)
  · exact .kList h1 h2
section
variable {P : Program} {w : World} {K : PySem.W.Frag} {mg : Str → Option Value} {base : Heap}
theorem sc_is_count : FnScope ["value"] ["value"] (defScope s_is_count) := ⟨rfl, rfl, rfl, by decide +kernel, rfl, by decide +kernel, by decide +kernel⟩
def sp_is_count (K : PySem.W.Frag) : Sp := fun vs H Q _ => ∃ i : Int, vs = [.int i] ∧ 0 ≤ i ∧ Q (.bl true) H
theorem ok_is_count (T : TT K mg) : Cal P w K mg base 1 "is_count" (sp_is_count K) [] := by
  refine cal_of (f_is_count T) (g_is_count T) sc_is_count (fun _ _ _ _ _ _ us hl => match us, hl with | [_], _ => rfl) (fun vs H Q E h => ?_) (fun cdv A outer s H vs Q E hr h => ?_)
  · obtain ⟨i, rfl, hi, k⟩ := h; rfl
  · obtain ⟨i, rfl, hi, k⟩ := h
    refine ⟨_, (pss_one (ps_ret (pe_and (pe_callB call_isi (by rfl) (b_isinstance T) (by decide +kernel) (pa_cons (pv 0) (pa_cons (pe_bltn (v := .ty "int") (by rfl) (b_int T) boot_int rfl) pa_nil))) (pe_and (pe_not (pe_callB call_isi (by rfl) (b_isinstance T) (by decide +kernel) (pa_cons (pv 0) (pa_cons (pe_bltn (v := .ty "bool") (by rfl) (b_bool T) boot_bool rfl) pa_nil)))) (pe_one (pe_cmpR op_ge (pv 0) pe_int (nomark _))))))), ?_⟩
    refine ⟨_, rfl, _, _, _, _, true, rfl, .ty "int", .base (.int i), kit_ty (by decide +kernel), _, rfl, iteT ?_⟩
    refine ⟨_, rfl, _, _, _, _, false, rfl, .ty "bool", .base (.int i), kit_ty (by decide +kernel), _, rfl, _, rfl, iteT ?_⟩
    refine ⟨_, rfl, _, _, rfl, rfl, ?_⟩
    show Q (.bl (decide (0 ≤ i))) H
    rw [decide_eq_true hi]
    exact k
theorem sc_is_entry : FnScope ["entry", "limit", "number"] ["entry", "limit"] (defScope s_is_entry) := ⟨rfl, rfl, rfl, by decide +kernel, rfl, by decide +kernel, by decide +kernel⟩
def sp_is_entry (K : PySem.W.Frag) : Sp := fun vs H Q _ => ∃ v l e, vs = [v, .int l] ∧ Dp K H v (dE e) ∧ (∀ b a s, e = some (b, a, s) → 0 ≤ b ∧ 0 ≤ a ∧ 0 ≤ s ∧ a < l) ∧ ∀ H', Same H H' → Q (.bl true) H'
theorem ok_is_entry (T : TT K mg) : Cal P w K mg base 2 "is_entry" (sp_is_entry K) [] := by
  refine cal_of (f_is_entry T) (g_is_entry T) sc_is_entry (fun _ _ _ _ _ _ us hl => match us, hl with | [_, _], _ => rfl) (fun vs H Q E h => ?_) (fun cdv A outer s H vs Q E hr h => ?_)
  · obtain ⟨v, l, e, rfl, hv, hok, k⟩ := h; rfl
  · obtain ⟨v, l, e, rfl, hv, hok, k⟩ := h
    refine ⟨_, (pss_cons (ps_if (pt_cmp (pc_isN (pv 0)))
      (pss_one (ps_ret pe_bl))
      pss_nil)
      (pss_cons (ps_if (PW.pt (pw_or (pt_not (pt_val (pe_callB call_isi (by rfl) (b_isinstance T) (by decide +kernel) (pa_cons (pv 0) (pa_cons (pe_bltn (v := .ty "tuple") (by rfl) (b_tuple T) boot_tuple rfl) pa_nil))))) (pw_or1 (pt_cmpR op_ne (pe_callB call_len_seq (by rfl) (b_len T) PySem.boot_len (pa_cons (pv 0) pa_nil)) pe_int (nomark _)))))
      (pss_one (ps_ret pe_bl))
      pss_nil)
      (pss_one (ps_ret (pe_and (pe_callB (cr_all rfl) (by rfl) (b_all T) (by decide +kernel) (pa_cons (pe_lc (own := [("number", 2)]) (g := (gName 2)) (tt := tYes) rfl sc_is_entry.nd (pi_tup (pv 0)) (blkOk_by (own := [("number", 2)]) (N := ["entry", "limit", "number"]) (sc := defScope s_is_entry) (by decide +kernel)) (fun _ _ _ _ _ => (pg_name (i := 2) sc_is_entry.nd rfl (.inl rfl))) (fun _ _ _ _ _ => pts_nil) (fun _ _ _ _ _ => (pe_c (ok_is_count T) hr (by decide) (by rfl) (pa_cons (pv 2) pa_nil)))) pa_nil)) (pe_one (pe_cmpR op_lt (pe_ix ix_tup (pv 0) pe_int (fun _ _ => rfl)) (pv 1) (nomark _)))))))), ?_⟩
    cases e with
    | none =>
      have := ent_non hv
      subst this
      exact ⟨_, rfl, _, rfl, iteT (k _ (Same.refl _))⟩
    | some z =>
      obtain ⟨b, a, s⟩ := z
      obtain ⟨p, rfl, hp⟩ := ent_some hv
      obtain ⟨h1, h2, h3, h4⟩ := hok b a s rfl
      refine ⟨_, rfl, _, rfl, iteF ?_⟩
      refine ⟨_, rfl, _, _, _, _, true, rfl, .ty "tuple", tyT hp, kit_ty (by decide +kernel), _, rfl, iteF ?_⟩
      refine ⟨_, rfl, p, _, rfl, .inr hp, rfl, _, rfl, ?_⟩
      refine iteF ?_
      refine ⟨_, rfl, p, rfl, ⟨_, hp⟩, fun D hD => ?_⟩
      refine lc_mapR (walk_tup (xs := [.int b, .int a, .int s])) (fun i v _ => ∃ x, [b, a, s][i]? = some x ∧ v = .bl true) (fun i v _ _ _ r => r) (by show 3 ≤ sizeLine; decide) hD (fun H' e => Evl.ex_t e hp) ?_ ?_
      · rintro i x H1 H2 Z hi e ⟨rfl, hx⟩ kz
        have : ∃ y, [b, a, s][i]? = some y ∧ x = .int y ∧ 0 ≤ y := by
          rcases i with _ | _ | _ | i
          · exact ⟨b, rfl, (Option.some.inj hx).symm, h1⟩
          · exact ⟨a, rfl, (Option.some.inj hx).symm, h2⟩
          · exact ⟨s, rfl, (Option.some.inj hx).symm, h3⟩
          · cases hx
        obtain ⟨y, y1, rfl, y2⟩ := this
        exact ⟨rfl, _, rfl, y, rfl, y2, kz _ _ ⟨y, y1, rfl⟩ (Same.refl _)⟩
      intro H1 acc e hDacc hlacc hR
      have hacc := acc_eq (xs := [b, a, s]) (g := fun _ => V.bl true) (by rw [hlacc]; rfl) hR
      subst hacc
      refine ⟨D, [true, true, true], rfl, .of (by rw [hDacc]; rfl), true, rfl, iteT ?_⟩
      refine ⟨_, rfl, _, _, _, _, rfl, rfl, Evl.ex_t e hp, rfl, _, rfl, _, _, rfl, rfl, ?_⟩
      show Q (.bl (decide (a < l))) H1
      rw [decide_eq_true h4]
      exact k H1 e
theorem sc_is_state : FnScope ["chain", "state", "at", "entry"] ["chain", "state"] (defScope s_is_state) := ⟨rfl, rfl, rfl, by decide +kernel, rfl, by decide +kernel, by decide +kernel⟩
def sp_is_state (K : PySem.W.Frag) : Sp := fun vs H Q _ => ∃ p v c st, vs = [.ref p, v] ∧ ChainAt K H p c ∧ Dp K H v (dS st) ∧ stOk c st ∧ st.length ≤ 1000 ∧ ∀ H', Same H H' → Q (.bl true) H'
theorem ok_is_state (T : TT K mg) : Cal P w K mg base 3 "is_state" (sp_is_state K) [] := by
  refine cal_of (f_is_state T) (g_is_state T) sc_is_state (fun _ _ _ _ _ _ us hl => match us, hl with | [_, _], _ => rfl) (fun vs H Q E h => ?_) (fun cdv A outer s H vs Q E hr h => ?_)
  · obtain ⟨p, v, c, st, rfl, hc, hv, hok, hlen, k⟩ := h; rfl
  · obtain ⟨p, v, c, st, rfl, hc, hv, hok, hlen, k⟩ := h
    refine ⟨_, (pss_cons (ps_if (PW.pt (pw_or (pt_not (pt_val (pe_callB call_isi (by rfl) (b_isinstance T) (by decide +kernel) (pa_cons (pv 1) (pa_cons (pe_bltn (v := .ty "tuple") (by rfl) (b_tuple T) boot_tuple rfl) pa_nil))))) (pw_or1 (pt_cmpR op_ne (pe_callB call_len_seq (by rfl) (b_len T) PySem.boot_len (pa_cons (pv 1) pa_nil)) (pe_callB call_len_seq (by rfl) (b_len T) PySem.boot_len (pa_cons (pv 0) pa_nil)) (nomark _)))))
      (pss_one (ps_ret pe_bl))
      pss_nil)
      (pss_one (ps_ret (pe_callB (cr_all rfl) (by rfl) (b_all T) (by decide +kernel) (pa_cons (pe_lc (own := [("at", 2), ("entry", 3)]) (g := (gTup K 2 (gCons (gName 2) (gCons (gName 3) gNil)))) (tt := tYes) rfl sc_is_state.nd (pi_enumT (by rfl) (b_enumerate T) (pa_cons (pv 1) pa_nil)) (blkOk_by (own := [("at", 2), ("entry", 3)]) (N := ["chain", "state", "at", "entry"]) (sc := defScope s_is_state) (by decide +kernel)) (fun _ _ _ _ _ => (pg_tup (n := 2) rfl (pgs_cons (pg_name (i := 2) sc_is_state.nd rfl (.inl rfl)) (pgs_cons (pg_name (i := 3) sc_is_state.nd rfl (.inl rfl)) pgs_nil)))) (fun _ _ _ _ _ => pts_nil) (fun _ _ _ _ _ => (pe_c (ok_is_entry T) hr (by decide) (by rfl) (pa_cons (pv 3) (pa_cons (pe_ix (r := rIxT K) ix_tup (pe_ix (r := rIxL K) ix_list (pv 0) (pv 2) (fun _ _ => rfl)) pe_int (fun _ _ => rfl)) pa_nil))))) pa_nil))))), ?_⟩
    obtain ⟨q, xs, rfl, hs, ha⟩ := row_at hv
    have hl := row_len ha
    obtain ⟨ys, g1, g2, g3⟩ := id hc
    refine ⟨_, rfl, _, _, _, _, true, rfl, .ty "tuple", tyT hs, kit_ty (by decide +kernel), _, rfl, iteF ?_⟩
    refine ⟨_, rfl, q, _, rfl, .inr hs, _, rfl, p, _, rfl, .inl g1, rfl, _, rfl, ?_⟩
    rw [show (!decide (V.int (xs.length : Nat) = V.int (ys.length : Nat))) = false by rw [hl, g2, hok.1]; simp]
    refine iteF ?_
    refine ⟨_, rfl, q, xs, rfl, hs, fun D hD => ?_⟩
    refine lc_mapR walk_enumT (fun i v _ => ∃ x, st[i]? = some x ∧ v = .bl true) (fun i v _ _ _ r => r) (by rw [hl]; exact Nat.le_trans hlen (by decide)) hD (fun H' e => Evl.ex_t e hs) ?_ ?_
    · rintro i x H1 H2 Z hi e ⟨T', x, rfl, hT', rfl, hx⟩ kz
      obtain ⟨z, hz, dz⟩ := row_get' ha hx
      have e2 := e.trans (same_new (o := .tup [V.int (i : Nat), x]) hT')
      have dz := Dp.mono e2 _ _ dz
      have hi2 : i < c.length := by rw [← hok.1, ← hl]; exact hi
      obtain ⟨ys', g1', g2', g3'⟩ := ChainAt.mono e2 hc
      obtain ⟨y, y1, pl, am, rfl, y2, y3⟩ := g3' i c[i] (List.getElem?_eq_getElem hi2)
      refine ⟨_, _, rfl, .of upd_same, rfl, _, _, rfl, _, _, rfl, rfl, rfl, ?_⟩
      refine ⟨_, rfl, _, rfl, _, rfl, _, _, _, _, rfl, rfl, g1', atI_nat y1, _, _, _, _, rfl, rfl, y2, rfl, ?_⟩
      exact ⟨_, _, z, rfl, dz, fun b a s ez => hok.2 i b a s c[i] (by rw [hz, ez]) (List.getElem?_eq_getElem hi2), fun H' e' => kz _ _ ⟨z, hz, rfl⟩ ((same_new hT').trans e')⟩
    · intro H1 acc e hDacc hlacc hR
      have hacc := acc_eq (xs := st) (g := fun _ => V.bl true) (by rw [hlacc, hl]) hR
      subst hacc
      refine ⟨D, st.map fun _ => true, rfl, .of (by rw [hDacc]; simp [Function.comp_def]), ?_⟩
      rw [show (st.map fun _ => true).all id = true by simp]
      exact k H1 e
theorem sc_is_pair_of_states : FnScope ["chains", "pair"] ["chains", "pair"] (defScope s_is_pair_of_states) := ⟨rfl, rfl, rfl, by decide +kernel, rfl, by decide +kernel, by decide +kernel⟩
def sp_is_pair_of_states (K : PySem.W.Frag) : Sp := fun vs H Q _ => ∃ u v c1 c2 s, vs = [u, v] ∧ ChainsAt K H u c1 c2 ∧ Dp K H v (dP s) ∧ stOk c1 s.1 ∧ stOk c2 s.2 ∧ c1.length ≤ 1000 ∧ c2.length ≤ 1000 ∧ ∀ H', Same H H' → Q (.bl true) H'
theorem ok_is_pair_of_states (T : TT K mg) : Cal P w K mg base 4 "is_pair_of_states" (sp_is_pair_of_states K) [] := by
  refine cal_of (f_is_pair_of_states T) (g_is_pair_of_states T) sc_is_pair_of_states (fun _ _ _ _ _ _ us hl => match us, hl with | [_, _], _ => rfl) (fun vs H Q E h => ?_) (fun cdv A outer s H vs Q E hr h => ?_)
  · obtain ⟨u, v, c1, c2, s, rfl, ⟨cp, ca, cb, rfl, hcp, hc1, hc2⟩, hv, o1, o2, l1, l2, k⟩ := h; rfl
  · obtain ⟨u, v, c1, c2, s, rfl, ⟨cp, ca, cb, rfl, hcp, hc1, hc2⟩, hv, o1, o2, l1, l2, k⟩ := h
    refine ⟨_, (pss_cons (ps_if (PW.pt (pw_or (pt_not (pt_val (pe_callB call_isi (by rfl) (b_isinstance T) (by decide +kernel) (pa_cons (pv 1) (pa_cons (pe_bltn (v := .ty "tuple") (by rfl) (b_tuple T) boot_tuple rfl) pa_nil))))) (pw_or1 (pt_cmpR op_ne (pe_callB call_len_seq (by rfl) (b_len T) PySem.boot_len (pa_cons (pv 1) pa_nil)) pe_int (nomark _)))))
      (pss_one (ps_ret pe_bl))
      pss_nil)
      (pss_one (ps_ret (pe_and (pe_c (ok_is_state T) hr (by decide) (by rfl) (pa_cons (pe_ix ix_tup (pv 0) pe_int (fun _ _ => rfl)) (pa_cons (pe_ix ix_tup (pv 1) pe_int (fun _ _ => rfl)) pa_nil))) (pe_one (pe_c (ok_is_state T) hr (by decide) (by rfl) (pa_cons (pe_ix ix_tup (pv 0) pe_int (fun _ _ => rfl)) (pa_cons (pe_ix ix_tup (pv 1) pe_int (fun _ _ => rfl)) pa_nil)))))))), ?_⟩
    obtain ⟨q, sa, sb, rfl, hq, d1, d2⟩ := two_at hv
    refine ⟨_, rfl, _, _, _, _, true, rfl, .ty "tuple", tyT hq, kit_ty (by decide +kernel), _, rfl, iteF ?_⟩
    refine ⟨_, rfl, q, _, rfl, .inr hq, rfl, _, rfl, iteF ?_⟩
    refine ⟨_, rfl, _, _, _, _, rfl, rfl, hcp, rfl, _, rfl, _, _, _, _, rfl, rfl, hq, rfl, ?_⟩
    refine ⟨ca, sa, c1, s.1, rfl, hc1, d1, o1, by rw [o1.1]; exact l1, fun H1 e1 => ⟨_, rfl, iteT ?_⟩⟩
    refine ⟨_, rfl, _, _, _, _, rfl, rfl, Evl.ex_t e1 hcp, rfl, _, rfl, _, _, _, _, rfl, rfl, Evl.ex_t e1 hq, rfl, ?_⟩
    exact ⟨cb, sb, c2, s.2, rfl, hc2.mono e1, Dp.mono e1 _ _ d2, o2, by rw [o2.1]; exact l2, fun H2 e2 => k H2 (e1.trans e2)⟩
end
end K98
set_option Elab.async false
set_option linter.all false
set_option maxRecDepth 100000
set_option maxHeartbeats 4000000
namespace K98
open PySem PySem.Spec PyProof.Rows L2 Ru He6 TL
open C8 (Cal pe_c)
theorem gN {Q : L2.St → Hp → Prop} {i : Nat} {v : V} {σ : L2.St} {H : Hp} (h : Q (σ.set i (some v)) H) : gName i v σ H Q := h
section
variable {P : Program} {w : World} {K : PySem.W.Frag} {mg : Str → Option Value} {base : Heap}
theorem sc_is_alike : FnScope ["first", "second", "states", "ages", "chains", "known", "pair", "events", "event", "following", "alike"] ["first", "second", "states", "ages"] (defScope s_is_alike) := ⟨rfl, rfl, rfl, by decide +kernel, rfl, by decide +kernel, by decide +kernel⟩
def sp_is_alike (K : PySem.W.Frag) : Sp := fun vs H Q _ => ∃ a b L ages s t R rs, vs = [.ref a, .ref b, .ref L, .bl ages] ∧ SetAt K H a s ∧ SetAt K H b t ∧ SetOk s ∧ SetOk t ∧ SqL K H L rs ∧ DpAll K H rs (R.map dP) ∧ IsV ages (chainOf s) (chainOf t) (min s.makes.length t.makes.length) (.same R) ∧ ∀ H', Same H H' → Q (.bl true) H'
theorem ok_is_alike (T : TT K mg) : FnK P w K mg base 14 "is_alike" s_is_alike [(("ages":Str),V.bl true)] ["first", "second", "states", "ages"] (sp_is_alike K) := by
  refine fnk_of (f_is_alike T) (g_is_alike T) sc_is_alike (fun vs H Q E h => ?_) (fun cdv A outer s H vs Q E hr h => ?_)
  · obtain ⟨a, b, L, ages, s, t, R, rs, rfl, hs, ht, sok, tok, hL, hR, hV, k⟩ := h; rfl
  · obtain ⟨a, b, L, ages, s, t, R, rs, rfl, hs, ht, sok, tok, hL, hR, hV, k⟩ := h
    refine ⟨_, (pss_cons (ps_expr (pe_callR (ok_need_calm T) hr (by decide) (by rfl) (pa_cons (pv 0) (pa_cons (pv 1) pa_nil))))
      (pss_cons (ps_set (i := 4) sc_is_alike.nd rfl (.inr rfl) (pe_tup (pa_cons (pe_c (ok_calm_chain T) hr (by decide) (by rfl) (pa_cons (pv 0) pa_nil)) (pa_cons (pe_c (ok_calm_chain T) hr (by decide) (by rfl) (pa_cons (pv 1) pa_nil)) pa_nil))))
      (pss_cons (ps_if (PW.pt (pw_or (pt_not (pt_val (pe_callB call_isi (by rfl) (b_isinstance T) (by decide +kernel) (pa_cons (pv 2) (pa_cons (pe_bltn (v := .ty "list") (by rfl) (b_list T) boot_list rfl) pa_nil))))) (pw_or1 (pt_not (pt_val (pe_callB (cr_all rfl) (by rfl) (b_all T) (by decide +kernel) (pa_cons (pe_lc (own := [("pair", 6)]) (g := (gName 6)) (tt := tYes) rfl sc_is_alike.nd (pi_list (pv 2)) (blkOk_by (own := [("pair", 6)]) (N := ["first", "second", "states", "ages", "chains", "known", "pair", "events", "event", "following", "alike"]) (sc := defScope s_is_alike) (by decide +kernel)) (fun _ _ _ _ _ => (pg_name (i := 6) sc_is_alike.nd rfl (.inl rfl))) (fun _ _ _ _ _ => pts_nil) (fun _ _ _ _ _ => (pe_c (ok_is_pair_of_states T) hr (by decide) (by rfl) (pa_cons (pv 4) (pa_cons (pv 6) pa_nil))))) pa_nil)))))))
      (pss_one (ps_ret pe_bl))
      pss_nil)
      (pss_cons (ps_set (i := 5) sc_is_alike.nd rfl (.inl rfl) pe_nnew)
      (pss_cons (ps_for PassesOwn.never rfl (pi_list (pv 2)) (pg_name (i := 6) sc_is_alike.nd rfl (.inl rfl))
      (pss_one (ps_asg pe_bl (pg_sub (pv 5) (pv 6) (set_nput hr.units)))))
      (pss_cons (ps_if (pt_cmpR (op_nnotin hr.units) (pe_c (ok_empty_pair T) hr (by decide) (by rfl) (pa_cons (pv 4) pa_nil)) (pv 5) rfl)
      (pss_one (ps_ret pe_bl))
      pss_nil)
      (pss_cons (ps_set (i := 7) sc_is_alike.nd rfl (.inl rfl) (pe_c (ok_common_events T) hr (by decide) (by rfl) (pa_cons (pe_c (ok_common_hops T) hr (by decide) (by rfl) (pa_cons (pv 0) (pa_cons (pv 1) pa_nil))) pa_nil)))
      (pss_cons (ps_for PassesOwn.never rfl (pi_list (pv 2)) (pg_name (i := 6) sc_is_alike.nd rfl (.inl rfl))
      (pss_one (ps_for PassesOwn.never rfl (pi_list (pv 7)) (pg_name (i := 8) sc_is_alike.nd rfl (.inl rfl))
      (pss_cons (ps_asg (pe_c (ok_step_both T) hr (by decide) (by rfl) (pa_cons (pv 4) (pa_cons (pv 6) (pa_cons (pv 8) (pa_cons (pv 3) pa_nil))))) (pg_tup (n := 2) rfl (pgs_cons (pg_name (i := 9) sc_is_alike.nd rfl (.inl rfl)) (pgs_cons (pg_name (i := 10) sc_is_alike.nd rfl (.inl rfl)) pgs_nil))))
      (pss_one (ps_if (PW.pt (pw_or (pt_not (pt_val (pv 10))) (pw_or1 (pt_cmpR (op_nnotin hr.units) (pv 9) (pv 5) rfl))))
      (pss_one (ps_ret pe_bl))
      pss_nil))))))
      (pss_one (ps_ret pe_bl)))))))))), ?_⟩
    have hn1 : min s.makes.length t.makes.length ≤ (chainOf s).length := by unfold chainOf; rw [List.length_map]; omega
    have hn2 : min s.makes.length t.makes.length ≤ (chainOf t).length := by unfold chainOf; rw [List.length_map]; omega
    have hn20 : min s.makes.length t.makes.length ≤ 20 := Nat.le_trans (Nat.min_le_left _ _) sok.2.1
    have cl1 : 1 ≤ (chainOf s).length ∧ (chainOf s).length ≤ 20 := by unfold chainOf; rw [List.length_map]; exact ⟨sok.1, sok.2.1⟩
    have cl2 : 1 ≤ (chainOf t).length ∧ (chainOf t).length ≤ 20 := by unfold chainOf; rw [List.length_map]; exact ⟨tok.1, tok.2.1⟩
    have hrl : rs.length = R.length := by have := DpAll.len hR; simpa using this
    refine ⟨_, rfl, _, rfl, [], [.ref a, .ref b], rfl, rfl, (by show 2 ≤ sizeLine; decide), fun sp hsp => ?_⟩
    have e0 : Same H (upd H sp (.tup [.ref a, .ref b])) := same_new hsp
    refine ⟨sp, [a, b], rfl, .of upd_same, fun x hx => ?_, fun H1 e1 => ?_⟩
    · rcases List.mem_cons.mp hx with h | h
      · rw [h]; exact ⟨s, hs.mono e0, sok⟩
      · rw [List.mem_singleton.mp h]; exact ⟨t, ht.mono e0, tok⟩
    replace e1 := e0.trans e1
    refine ⟨_, rfl, a, s, rfl, hs.mono e1, sok, fun l1 H2 e2 _ hc1 => ?_⟩
    refine ⟨_, rfl, b, t, rfl, (ht.mono e1).mono e2, tok, fun l2 H3 e3 _ hc2 => ?_⟩
    refine ⟨by show 2 ≤ sizeLine; decide, fun ct hct => ?_⟩
    have hch : ChainsAt K (upd H3 ct (.tup [.ref l1, .ref l2])) (.ref ct) (chainOf s) (chainOf t) := ⟨ct, l1, l2, rfl, .of upd_same, (hc1.mono e3).mono (same_new hct), hc2.mono (same_new hct)⟩
    have e4 : Same H (upd H3 ct (.tup [.ref l1, .ref l2])) := ((e1.trans e2).trans e3).trans (same_new hct)
    generalize upd H3 ct (.tup [.ref l1, .ref l2]) = H4 at hch e4
    obtain ⟨v1, v2, v3, v4, v5⟩ := hV
    refine ⟨_, rfl, _, _, _, _, true, rfl, .ty "list", tyL (Evl.ex_l e4 hL), kit_ty (by decide +kernel), _, rfl, iteF ?_⟩
    refine ⟨_, rfl, L, rfl, ⟨_, Evl.ex_l e4 hL⟩, fun D hD => ?_⟩
    refine lc_mapR (walk_list (xs := rs)) (fun i v _ => ∃ x, R[i]? = some x ∧ v = .bl true) (fun i v _ _ _ r => r) (by rw [hrl]; exact Nat.le_trans v1 (by decide)) hD (fun H' e => Evl.ex_l (e4.trans e) hL) ?_ ?_
    · rintro i x H5 H6 Z hi e ⟨rfl, hx⟩ kz
      have hi2 : i < R.length := by rw [← hrl]; exact hi
      obtain ⟨dd, h1, h2⟩ := DpAll.get' hR hx
      rw [List.getElem?_map, List.getElem?_eq_getElem hi2] at h1
      cases h1
      have hm := List.getElem_mem hi2
      exact ⟨rfl, _, rfl, _, rfl, .ref ct, x, chainOf s, chainOf t, R[i], rfl, hch.mono e, Dp.mono (e4.trans e) _ _ h2, (v4 _ hm).1, (v4 _ hm).2, Nat.le_trans cl1.2 (by decide), Nat.le_trans cl2.2 (by decide), fun H7 e7 => kz _ _ ⟨_, List.getElem?_eq_getElem hi2, rfl⟩ e7⟩
    intro H5 acc e5 hDacc hlacc hRR
    have hacc := acc_eq (xs := R) (g := fun _ => V.bl true) (by rw [hlacc, hrl]) hRR
    subst hacc
    refine ⟨D, R.map fun _ => true, rfl, .of (by rw [hDacc]; simp [Function.comp_def]), true, ?_⟩
    refine ⟨by rw [show (R.map fun _ => true).all id = true by simp], iteF ?_⟩
    have e05 := e4.trans e5
    have hch5 := hch.mono e5
    generalize hn : min s.makes.length t.makes.length = n at *
    generalize hc1e : chainOf s = c1 at *
    generalize hc2e : chainOf t = c2 at *
    intro d hd
    have ed : Same H5 (upd H5 d (NDict P w d [])) := same_new hd
    have hLd : ∀ {H'}, Same H5 H' → SqL K H' L rs := fun e => Evl.ex_l (e05.trans e) hL
    refine gN ?_
    dsimp only
    refine (seqM (t := tFor _ _ _) (fun σ H' => (∃ x7, σ = [some (.ref a), some (.ref b), some (.ref L), some (.bl ages), some (.ref ct), some (.ref d), x7, none, none, none, none]) ∧ Same H5 H' ∧ ∃ xs : List NEnt, H' d = some (NDict P w d xs) ∧ keysAt K H' xs ∧ ∀ p, (lookN xs (kP p)).isSome = true ↔ p ∈ R) (fun Nx hNx => ?_) ?_)
    · refine ⟨_, rfl, L, rfl, ⟨rs, hLd ed⟩, ?_⟩
      refine for_it (walk_list (xs := rs)) (fun i σ H' => (∃ x7, σ = [some (.ref a), some (.ref b), some (.ref L), some (.bl ages), some (.ref ct), some (.ref d), x7, none, none, none, none]) ∧ Same H5 H' ∧ ∃ xs : List NEnt, H' d = some (NDict P w d xs) ∧ (∀ x ∈ xs, ∃ s, x.1 = kP s ∧ Dp K H' (.ref x.2.1) (dP s)) ∧ xs.length ≤ i ∧ ∀ p, (lookN xs (kP p)).isSome = true ↔ p ∈ R.take i) ?_ (fun i σ H' _ q => hLd q.2.1) ?_ ?_
      · exact ⟨⟨_, rfl⟩, ed, [], upd_same, (fun x hx => nomatch hx), Nat.le_refl _, fun p => ⟨(fun h => by cases h), fun h => by rw [List.take_zero] at h; cases h⟩⟩
      · rintro i v σ _ H6 hi ⟨⟨x7, rfl⟩, e, xs, hd6, hk6, hl6, hm6⟩ ⟨rfl, hv⟩
        have hi2 : i < R.length := by rw [← hrl]; exact hi
        obtain ⟨dd, h1, h2⟩ := DpAll.get' hR hv
        rw [List.getElem?_map, List.getElem?_eq_getElem hi2] at h1
        cases h1
        have h2 := Dp.mono (e05.trans e) _ _ h2
        obtain ⟨va, rfl, kv⟩ := key_at h2
        have htk : R.take (i + 1) = R.take i ++ [R[i]] := List.take_succ_eq_append_getElem hi2
        have hnew : lookN xs (kP R[i]) = none := by
          cases hc : lookN xs (kP R[i]) with
          | none => rfl
          | some v =>
            exfalso
            have h3 := (hm6 R[i]).mp (by rw [hc]; rfl)
            obtain ⟨j, hj, e3⟩ := List.mem_iff_getElem.mp h3
            rw [List.length_take] at hj
            rw [List.getElem_take] at e3
            have := (List.getElem_inj v2).mp e3
            omega
        have ka : keysAt K H6 xs := fun x hx => by
          obtain ⟨s', q1, q2⟩ := hk6 x hx
          exact ⟨by rw [q1, kP_data]; exact q2, by rw [q1]; exact kP_depth s'⟩
        refine ⟨_, rfl, _, rfl, va, d, xs, kP R[i], rfl, rfl, hd6, ka, kv, Nat.lt_of_le_of_lt (Nat.le_trans hl6 (Nat.le_trans (Nat.le_of_lt hi2) v1)) (by decide), ⟨_, rfl⟩, same_mut e hd, _, upd_same, ?_, ?_, fun p => ?_⟩
        · rw [putN_new hnew]
          intro x hx
          have sl : SameL H6 (upd H6 d (NDict P w d (xs ++ [(kP R[i], va, V.bl true)]))) := (SameL.refl _).mutX hd6
          rcases List.mem_append.mp hx with h | h
          · obtain ⟨s', q1, q2⟩ := hk6 x h
            exact ⟨s', q1, Dp.monoL sl _ _ (noL_dP _) q2⟩
          · rw [List.mem_singleton.mp h]
            exact ⟨R[i], rfl, Dp.monoL sl _ _ (noL_dP _) h2⟩
        · rw [putN_new hnew, List.length_append]; exact Nat.succ_le_succ hl6
        · rw [lookN_put hnew, htk, List.mem_append, List.mem_singleton]
          by_cases c : kP p = kP R[i]
          · rw [if_pos c]; exact ⟨fun _ => .inr (kP_inj c), fun _ => rfl⟩
          · rw [if_neg c, hm6]; exact ⟨.inl, fun z => z.elim id fun z => absurd (by rw [z]) c⟩
      · rintro σ H6 ⟨⟨x7, rfl⟩, e, xs, hd6, hk6, hl6, hm6⟩
        rw [hrl, List.take_length] at hm6
        exact hNx _ _ ⟨⟨_, rfl⟩, e, xs, hd6, (fun x hx => by
          obtain ⟨s', q1, q2⟩ := hk6 x hx
          exact ⟨by rw [q1, kP_data]; exact q2, by rw [q1]; exact kP_depth s'⟩), hm6⟩
    rintro _ H6 ⟨⟨x7, rfl⟩, e6, xs, hd6, hk6, hm6⟩
    have hch6 := hch5.mono e6
    refine ⟨_, rfl, .ref ct, c1, c2, rfl, hch6, cl1.1, cl1.2, cl2.1, cl2.2, fun bp H7 e7 _ hbp => ?_⟩
    obtain ⟨_, q1, kbp⟩ := key_at hbp
    cases q1
    refine ⟨_, rfl, bp, d, xs, kP (p0 c1 c2), rfl, rfl, e7 _ _ hd6, hk6.mono e7, kbp, ?_⟩
    rw [(hm6 (p0 c1 c2)).mpr v3]
    refine ⟨_, rfl, iteF ?_⟩
    have e57 := e6.trans e7
    refine ⟨_, rfl, _, rfl, a, b, s, t, rfl, hs.mono (e05.trans e57), ht.mono (e05.trans e57), ?_⟩
    rw [hn]
    refine ⟨n, rfl, hn20, fun le evv H8 e8 _ hle hev => ?_⟩
    have e58 := e57.trans e8
    have hel : evv.length = n + 2 := by have := DpAll.len hev; rw [List.length_map, evs_len] at this; exact this
    have hd8 := e8 _ _ (e7 _ _ hd6)
    have hk8 := (hk6.mono e7).mono e8
    refine ⟨_, rfl, L, rfl, ⟨rs, hLd e58⟩, ?_⟩
    refine for_it (walk_list (xs := rs)) (fun i σ H' => (∃ x6 x8 x9 x10, σ = [some (.ref a), some (.ref b), some (.ref L), some (.bl ages), some (.ref ct), some (.ref d), x6, some (.ref le), x8, x9, x10]) ∧ Same H8 H') ⟨⟨_, _, _, _, rfl⟩, Same.refl _⟩ (fun i σ H' _ q => hLd (e58.trans q.2)) ?_ (fun σ H' q => k H' (e05.trans (e58.trans q.2)))
    rintro i v σ H9 _ hi ⟨⟨x6, x8, x9, x10, rfl⟩, e9⟩ ⟨rfl, hv⟩
    have hi2 : i < R.length := by rw [← hrl]; exact hi
    obtain ⟨dd, h1, h2⟩ := DpAll.get' hR hv
    rw [List.getElem?_map, List.getElem?_eq_getElem hi2] at h1
    cases h1
    have hm := List.getElem_mem hi2
    refine ⟨_, rfl, le, rfl, ⟨evv, .of (e9 _ _ hle)⟩, ?_⟩
    refine for_it (walk_list (xs := evv)) (fun j σ H' => (∃ x8 x9 x10, σ = [some (.ref a), some (.ref b), some (.ref L), some (.bl ages), some (.ref ct), some (.ref d), some v, some (.ref le), x8, x9, x10]) ∧ Same H8 H') ⟨⟨_, _, _, rfl⟩, e9⟩ (fun j σ H' _ q => .of (q.2 _ _ hle)) ?_ (fun σ H' ⟨⟨_, _, _, q1⟩, q2⟩ => ⟨⟨_, _, _, _, q1⟩, q2⟩)
    rintro j ev σ H10 _ hj ⟨⟨x8, x9, x10, rfl⟩, e10⟩ ⟨rfl, hev'⟩
    rw [hel] at hj
    obtain ⟨d2, g1, g2⟩ := DpAll.get' hev hev'
    rw [List.getElem?_map, evs_get hj] at g1
    cases g1
    have e510 := e58.trans e10
    refine ⟨_, rfl, _, rfl, _, rfl, _, rfl, ?_⟩
    refine ⟨.ref ct, v, ev, ages, c1, c2, R[i], evN n j, rfl, hch5.mono e510, Dp.mono (e05.trans e510) _ _ h2, Dp.mono e10 _ _ g2, evN_ok hn1, evN_ok hn2, (v4 _ hm).1.1, (v4 _ hm).2.1, cl1.1, cl1.2, cl2.1, cl2.2, fun r H11 e11 d11 => ?_⟩
    obtain ⟨rq, fv, av, rfl, hrq, dfv, dav⟩ := two_at d11
    have := dav.blI
    subst this
    obtain ⟨w1, w2⟩ := v5 _ hm j hj
    refine ⟨rq, _, rfl, hrq, rfl, _, _, rfl, _, _, rfl, rfl, ?_⟩
    obtain ⟨fa, rfl, kfa⟩ := key_at dfv
    refine ⟨_, rfl, _, rfl, ?_⟩
    rw [show alikeB ages c1 c2 R[i] (evN n j) = true from w1]
    refine iteF ?_
    refine ⟨_, rfl, _, rfl, fa, d, xs, kP (nxN c1 c2 n R[i] j), rfl, rfl, (e10.trans e11) _ _ hd8, hk8.mono (e10.trans e11), kfa, ?_⟩
    rw [(hm6 _).mpr w2]
    exact ⟨_, rfl, iteF ⟨⟨_, _, _, rfl⟩, e10.trans e11⟩⟩
end
end K98
set_option Elab.async false
set_option linter.all false
set_option maxRecDepth 100000
set_option maxHeartbeats 4000000
namespace K98
open PySem PySem.Spec PyProof.Rows L2 Ru He6 TL
open C8 (Cal pe_c)
/-! ### profiles, the law's own steps -/
def dR (h : Hop) : PyData := .tuple [.int h.lim, .bool h.tells, .bool h.dates]
def ProfAt (K : PySem.W.Frag) (H : Hp) (p : Addr) (c : Chain) : Prop := ∃ xs, SqL K H p xs ∧ DpAll K H xs (c.map dR)
theorem ProfAt.mono {K : PySem.W.Frag} {H H' : Hp} {p : Addr} {c : Chain} (e : Same H H') : ProfAt K H p c → ProfAt K H' p c := fun ⟨xs, h1, h2⟩ => ⟨xs, Evl.ex_l e h1, Dp.monoAll e _ _ h2⟩
theorem row3 {K : PySem.W.Frag} {H : Hp} {v : V} {h : Hop} (d : Dp K H v (dR h)) : ∃ p, v = .ref p ∧ SqT K H p [.int h.lim, .bl h.tells, .bl h.dates] := by
  obtain ⟨p, xs, rfl, hs, ha⟩ := Dp.tupI d
  cases ha with
  | cons h1 ha => cases ha with
    | cons h2 ha => cases ha with
      | cons h3 ha => cases ha; cases h1.intI; cases h2.blI; cases h3.blI; exact ⟨p, rfl, hs⟩
theorem prof_get {K : PySem.W.Frag} {H : Hp} {xs : List V} {c : Chain} {i : Nat} (h : DpAll K H xs (c.map dR)) (hi : i < c.length) : ∃ p, xs[i]? = some (.ref p) ∧ SqT K H p [.int c[i].lim, .bl c[i].tells, .bl c[i].dates] := by
  obtain ⟨v, h1, h2⟩ := DpAll.get h (i := i) (d := dR c[i]) (by rw [List.getElem?_map, List.getElem?_eq_getElem hi]; rfl)
  obtain ⟨p, rfl, h3⟩ := row3 h2
  exact ⟨p, h1, h3⟩
theorem prof_len {K : PySem.W.Frag} {H : Hp} {xs : List V} {c : Chain} (h : DpAll K H xs (c.map dR)) : xs.length = c.length := by
  have := DpAll.len h; simpa using this
section
variable {P : Program} {w : World} {K : PySem.W.Frag} {mg : Str → Option Value} {base : Heap}
theorem sc_law_older : FnScope ["_law_profile_here", "_law_state", "_law_ticks", "_law_fresh", "_law_k", "_law_entry"] ["_law_profile_here", "_law_state", "_law_ticks"] (defScope s_law_older) := ⟨rfl, rfl, rfl, by decide +kernel, rfl, by decide +kernel, by decide +kernel⟩
def sp_law_older (K : PySem.W.Frag) : Sp := fun vs H Q _ => ∃ p v c st t, vs = [.ref p, v, .int t] ∧ ProfAt K H p c ∧ Dp K H v (dS st) ∧ st.length = c.length ∧ st.length ≤ 1000 ∧ ∀ L H' es, Same H H' → H L = none → H' L = some (.lst es) → DpAll K H' es ((waitRow c st t).map dE) → Q (.ref L) H'
theorem ok_law_older (T : TT K mg) : Cal P w K mg base 1 "_law_older" (sp_law_older K) [] := by
  refine cal_of (f_law_older T) (g_law_older T) sc_law_older (fun _ _ _ _ _ _ us hl => match us, hl with | [_, _, _], _ => rfl) (fun vs H Q E h => ?_) (fun cdv A outer s H vs Q E hr h => ?_)
  · obtain ⟨p, v, c, st, t, rfl, ⟨ps, hp, hpa⟩, hv, hle, hlen, k⟩ := h; rfl
  · obtain ⟨p, v, c, st, t, rfl, ⟨ps, hp, hpa⟩, hv, hle, hlen, k⟩ := h
    refine ⟨_, (pss_cons (ps_set (i := 3) sc_law_older.nd rfl (.inl rfl) (pe_lst pa_nil))
      (pss_cons (ps_for PassesOwn.never rfl (pi_range1 (by rfl) (b_range T) (pa_cons (pe_callB call_len_seq (by rfl) (b_len T) PySem.boot_len (pa_cons (pv 0) pa_nil)) pa_nil)) (pg_name (i := 4) sc_law_older.nd rfl (.inl rfl))
      (pss_cons (ps_set (i := 5) sc_law_older.nd rfl (.inl rfl) (pe_ix ix_tup (pv 1) (pv 4) (fun _ _ => rfl)))
      (pss_cons (ps_if (pt_cmp (pc_notN (pv 5)))
      (pss_cons (ps_set (i := 5) sc_law_older.nd rfl (.inl rfl) (pe_tup (pa_cons (pe_ix ix_tup (pv 5) pe_int (fun _ _ => rfl)) (pa_cons (pe_op op_add (pe_ix ix_tup (pv 5) pe_int (fun _ _ => rfl)) (pv 2)) (pa_cons (pe_op op_add (pe_ix ix_tup (pv 5) pe_int (fun _ _ => rfl)) (pv 2)) pa_nil)))))
      (pss_one (ps_if (pt_cmpR op_ge (pe_ix ix_tup (pv 5) pe_int (fun _ _ => rfl)) (pe_ix ix_tup (pe_ix ix_list (pv 0) (pv 4) (fun _ _ => rfl)) pe_int (fun _ _ => rfl)) (nomark _))
      (pss_one (ps_set (i := 5) sc_law_older.nd rfl (.inl rfl) pe_non))
      pss_nil)))
      pss_nil)
      (pss_one (ps_expr (pe_bm PySem.F.plainAttrs_list PySem.F.slot_list_append PySem.F.type_list_append mt_append (pv 3) (pa_cons (pv 5) pa_nil)))))))
      (pss_one (ps_ret (pv 3))))), ?_⟩
    obtain ⟨q, xs, rfl, hs, ha⟩ := row_at hv
    have hl := row_len ha
    have hpl := prof_len hpa
    refine ⟨by show 0 ≤ sizeLine; decide, fun L hL => ?_⟩
    have e0 : Same H (upd H L (.lst [])) := same_new hL
    refine ⟨_, rfl, p, _, rfl, .inl (Evl.ex_l e0 hp), (ps.length : Int), rfl, by omega, by omega, ?_⟩
    rw [show ((ps.length : Int)).toNat = c.length by omega]
    refine for_it (walk_range (lo := 0) (n := c.length)) (fun i σ H' => (∃ x4 x5, σ = [some (.ref p), some (.ref q), some (.int t), some (.ref L), x4, x5]) ∧ Same H H' ∧ ∃ es, H' L = some (.lst es) ∧ es.length = i ∧ ∀ (j : Nat) (v : V), es[j]? = some v → ∃ e, (waitRow c st t)[j]? = some e ∧ Dp K H' v (dE e)) ?_ (fun _ _ _ _ _ => trivial) ?_ ?_
    · exact ⟨⟨_, _, rfl⟩, e0, [], upd_same, rfl, fun j v h => by cases h⟩
    · rintro i x σ _ H1 hi ⟨⟨x4, x5, rfl⟩, e, es, hes, hel, hall⟩ ⟨rfl, rfl⟩
      have hist : i < st.length := by rw [hle]; exact hi
      obtain ⟨ev, hx, dx⟩ := row_get ha hist
      have dx := Dp.mono e _ _ dx
      obtain ⟨pr, hpr, hpt⟩ := prof_get hpa hi
      have hpt := Evl.ex_t e hpt
      have hwi : (waitRow c st t)[i]? = some (waited st[i] c[i].lim t) := by simp [waitRow, List.getElem?_zipWith, List.getElem?_eq_getElem hist, List.getElem?_eq_getElem hi]
      have tail : ∀ (H2 : Hp) (v2 : V), Same H1 H2 → Dp K H2 v2 (dE (waited st[i] c[i].lim t)) → ∃ es', (upd H2 L (.lst (es ++ [v2]))) L = some (.lst es') ∧ es'.length = i + 1 ∧ ∀ (j : Nat) (v : V), es'[j]? = some v → ∃ e, (waitRow c st t)[j]? = some e ∧ Dp K (upd H2 L (.lst (es ++ [v2]))) v (dE e) := fun H2 v2 e2 d2 => by
        have sl : SameL H2 (upd H2 L (.lst (es ++ [v2]))) := (SameL.refl _).mut (e2 _ _ hes)
        refine ⟨es ++ [v2], upd_same, by rw [List.length_append, hel]; rfl, fun j v hj => ?_⟩
        by_cases cj : j < es.length
        · rw [List.getElem?_append_left cj] at hj
          obtain ⟨e', q1, q2⟩ := hall j v hj
          exact ⟨e', q1, Dp.monoL ((SameL.of e2).trans sl) _ _ (noL_dE _) q2⟩
        · rw [List.getElem?_append_right (by omega)] at hj
          have hz : j - es.length = 0 := by
            have := (List.getElem?_eq_some_iff.mp hj).1
            simp at this; omega
          rw [hz] at hj
          cases hj
          have : j = i := by omega
          subst this
          exact ⟨_, hwi, Dp.monoL sl _ _ (noL_dE _) d2⟩
      have hsz : es.length < sizeLine := by rw [hel]; exact Nat.lt_of_lt_of_le (Nat.lt_of_lt_of_le hist hlen) (by decide)
      have hidx : (0 : Int) + (i : Nat) = (i : Nat) := by omega
      generalize hev : st[i] = z at dx tail
      refine ⟨_, rfl, _, rfl, q, xs, _, ev, rfl, rfl, Evl.ex_t e hs, atI_eq (j := i) hidx hx, ?_⟩
      cases z with
      | none =>
        have := ent_non dx
        subst this
        refine ⟨_, rfl, _, rfl, iteF ⟨_, rfl, .inl ⟨rfl, _, .of hes⟩, _, rfl, L, es, _, rfl, rfl, hes, hsz, ⟨_, _, rfl⟩, same_mut e hL, tail H1 _ (Same.refl _) .non⟩⟩
      | some z =>
        obtain ⟨b, a, s⟩ := z
        obtain ⟨pe, rfl, hpe⟩ := ent_some dx
        refine ⟨_, rfl, _, rfl, iteT ?_⟩
        refine ⟨_, rfl, _, _, _, _, rfl, rfl, hpe, rfl, _, rfl, _, _, _, _, rfl, rfl, hpe, rfl, _, rfl, _, _, rfl, rfl, _, rfl, _, _, _, _, rfl, rfl, hpe, rfl, _, rfl, _, _, rfl, rfl, by show 3 ≤ sizeLine; decide, fun t6 ht6 => ?_⟩
        have e6 : Same H1 (upd H1 t6 (.tup [.int b, .int (a + t), .int (s + t)])) := same_new ht6
        refine ⟨_, rfl, _, _, _, _, rfl, rfl, .of upd_same, rfl, _, rfl, _, rfl, p, ps, _, _, rfl, rfl, Evl.ex_l (e.trans e6) hp, atI_eq (j := i) hidx hpr, _, _, _, _, rfl, rfl, Evl.ex_t e6 hpt, rfl, _, _, rfl, rfl, _, rfl, ?_⟩
        by_cases cl : c[i].lim ≤ a + t
        · refine iteTd cl ⟨_, rfl, .inl ⟨rfl, _, .of (e6 _ _ hes)⟩, _, rfl, L, es, _, rfl, rfl, e6 _ _ hes, hsz, ⟨_, _, rfl⟩, same_mut (e.trans e6) hL, tail _ _ e6 ?_⟩
          rw [waited, if_pos cl]; exact .non
        · refine iteFd cl ⟨_, rfl, .inl ⟨rfl, _, .of (e6 _ _ hes)⟩, _, rfl, L, es, _, rfl, rfl, e6 _ _ hes, hsz, ⟨_, _, rfl⟩, same_mut (e.trans e6) hL, tail _ _ e6 ?_⟩
          rw [waited, if_neg cl]; exact ent_new
    · rintro σ H1 ⟨⟨x4, x5, rfl⟩, e, es, hes, hel, hall⟩
      refine ⟨_, rfl, k L H1 es e hL hes (dpAll_of (by rw [List.length_map, waitRow_len hle, hel, hle]) fun i v hi => ?_)⟩
      obtain ⟨e', q1, q2⟩ := hall i v hi
      exact ⟨dE e', by rw [List.getElem?_map, q1]; rfl, q2⟩
end
end K98
set_option Elab.async false
set_option linter.all false
set_option maxRecDepth 100000
set_option maxHeartbeats 4000000
namespace K98
open PySem PySem.Spec PyProof.Rows L2 Ru He6 TL
open C8 (Cal pe_c)
section
variable {P : Program} {w : World} {K : PySem.W.Frag} {mg : Str → Option Value} {base : Heap}
theorem sc_law_asked : FnScope ["_law_profile_here", "_law_state", "_law_hop", "_law_source", "_law_k", "_law_entry", "_law_said", "_law_fresh", "_law_start"] ["_law_profile_here", "_law_state", "_law_hop"] (defScope s_law_asked) := ⟨rfl, rfl, rfl, by decide +kernel, rfl, by decide +kernel, by decide +kernel⟩
def sp_law_asked (K : PySem.W.Frag) : Sp := fun vs H Q _ => ∃ p v c st hop, vs = [.ref p, v, .int (hop : Nat)] ∧ ProfAt K H p c ∧ Dp K H v (dS st) ∧ st.length = c.length ∧ st.length ≤ 1000 ∧ 1 ≤ hop ∧ hop ≤ c.length ∧ ∀ v' H', Same H H' → Dp K H' v' (.tuple [dS (asked c st hop).row, .tuple [.int (asked c st hop).b, .int (asked c st hop).told]]) → Q v' H'
theorem ok_law_asked (T : TT K mg) : Cal P w K mg base 1 "_law_asked" (sp_law_asked K) [] := by
  refine cal_of (f_law_asked T) (g_law_asked T) sc_law_asked (fun _ _ _ _ _ _ us hl => match us, hl with | [_, _, _], _ => rfl) (fun vs H Q E h => ?_) (fun cdv A outer s H vs Q E hr h => ?_)
  · obtain ⟨p, v, c, st, hop, rfl, ⟨ps, hp, hpa⟩, hv, hle, hlen, h1, h2, k⟩ := h; rfl
  · obtain ⟨p, v, c, st, hop, rfl, ⟨ps, hp, hpa⟩, hv, hle, hlen, h1, h2, k⟩ := h
    refine ⟨_, (pss_cons (ps_set (i := 3) sc_law_asked.nd rfl (.inl rfl) (pe_callB call_len_seq (by rfl) (b_len T) PySem.boot_len (pa_cons (pv 0) pa_nil)))
      (pss_cons (ps_for PassesOwn.never rfl (pi_range3 (by rfl) (b_range T) (pa_cons (pe_op op_sub (pe_callB call_len_seq (by rfl) (b_len T) PySem.boot_len (pa_cons (pv 0) pa_nil)) pe_int) (pa_cons (pe_op op_sub (pv 2) pe_int) (pa_cons (pe_un un_neg pe_int) pa_nil)))) (pg_name (i := 4) sc_law_asked.nd rfl (.inl rfl))
      (pss_one (ps_if (pt_cmp (pc_notN (pe_ix ix_tup (pv 1) (pv 4) (fun _ _ => rfl))))
      (pss_one (ps_set (i := 3) sc_law_asked.nd rfl (.inl rfl) (pv 4)))
      pss_nil)))
      (pss_cons (ps_set (i := 5) sc_law_asked.nd rfl (.inl rfl) (pe_tup (pa_cons pe_int (pa_cons pe_int (pa_cons pe_int pa_nil)))))
      (pss_cons (ps_set (i := 6) sc_law_asked.nd rfl (.inl rfl) pe_int)
      (pss_cons (ps_if (pt_cmpR op_lt (pv 3) (pe_callB call_len_seq (by rfl) (b_len T) PySem.boot_len (pa_cons (pv 0) pa_nil)) (nomark _))
      (pss_cons (ps_set (i := 5) sc_law_asked.nd rfl (.inl rfl) (pe_ix ix_tup (pv 1) (pv 3) (fun _ _ => rfl)))
      (pss_one (ps_set (i := 6) sc_law_asked.nd rfl (.inl rfl) (pe_ifExp (pt_val (pe_ix ix_tup (pe_ix ix_list (pv 0) (pv 3) (fun _ _ => rfl)) pe_int (fun _ _ => rfl))) (pe_ix ix_tup (pv 5) pe_int (fun _ _ => rfl)) pe_int))))
      pss_nil)
      (pss_cons (ps_set (i := 7) sc_law_asked.nd rfl (.inl rfl) (pe_callTy call_list_of (by rfl) (b_list T) (by decide +kernel) (pa_cons (pv 1) pa_nil)))
      (pss_cons (ps_for PassesOwn.never rfl (pi_range3 (by rfl) (b_range T) (pa_cons (pe_op op_sub (pv 3) pe_int) (pa_cons (pe_op op_sub (pv 2) pe_int) (pa_cons (pe_un un_neg pe_int) pa_nil)))) (pg_name (i := 4) sc_law_asked.nd rfl (.inl rfl))
      (pss_cons (ps_set (i := 8) sc_law_asked.nd rfl (.inl rfl) (pe_ifExp (pt_val (pe_ix ix_tup (pe_ix ix_list (pv 0) (pv 4) (fun _ _ => rfl)) pe_int (fun _ _ => rfl))) (pe_callB (call_max2 rfl) (by rfl) (b_max T) (by decide +kernel) (pa_cons (pv 6) (pa_cons (pe_ix ix_tup (pv 5) pe_int (fun _ _ => rfl)) pa_nil))) (pv 6)))
      (pss_cons (ps_asg (pe_ifExp (pt_cmpR op_lt (pv 8) (pe_ix ix_tup (pe_ix ix_list (pv 0) (pv 4) (fun _ _ => rfl)) pe_int (fun _ _ => rfl)) (nomark _)) (pe_tup (pa_cons (pe_ix ix_tup (pv 5) pe_int (fun _ _ => rfl)) (pa_cons (pv 8) (pa_cons (pe_ix ix_tup (pv 5) pe_int (fun _ _ => rfl)) pa_nil)))) pe_non) (pg_sub (pv 7) (pv 4) set_list))
      (pss_one (ps_set (i := 6) sc_law_asked.nd rfl (.inl rfl) (pe_ifExp (pt_val (pe_ix ix_tup (pe_ix ix_list (pv 0) (pv 4) (fun _ _ => rfl)) pe_int (fun _ _ => rfl))) (pv 8) pe_int))))))
      (pss_one (ps_ret (pe_tup (pa_cons (pe_tupleOf (by rfl) (b_tuple T) (pv 7)) (pa_cons (pe_tup (pa_cons (pe_ix ix_tup (pv 5) pe_int (fun _ _ => rfl)) (pa_cons (pv 6) pa_nil))) pa_nil)))))))))))), ?_⟩
    obtain ⟨q, xs, rfl, hs, ha⟩ := row_at hv
    have hxl := row_len ha
    have hpl := prof_len hpa
    refine sq_asg ⟨_, rfl, p, ps, rfl, .inl hp, ?_⟩
    rw [hpl]
    refine seqM (t := tFor _ _ _) (fun σ H' => H = H' ∧ ∃ (so : Nat) (x4 : Option V), σ = [some (.ref p), some (.ref q), some (.int hop), some (.int so), x4, none, none, none, none] ∧ hop - 1 ≤ so ∧ so ≤ c.length ∧ (∀ j, hop - 1 ≤ j → j < so → st[j]? = some none) ∧ (so < c.length → ∃ z, st[so]? = some (some z))) (fun Nx hNx => ?_) ?_
    · refine ⟨_, rfl, p, ps, rfl, .inl hp, _, _, rfl, rfl, _, rfl, _, _, rfl, rfl, _, rfl, (ps.length : Int) - 1, (hop : Int) - 2, -1, c.length + 1 - hop, rfl, ?_, ?_⟩
      · have := RgC.neg (i := (ps.length : Int) - 1) (j := (hop : Int) - 2) (by omega) (by omega) (by omega) (by omega)
        rw [show ((ps.length : Int) - 1 - ((hop : Int) - 2)).toNat = c.length + 1 - hop by omega] at this
        exact this
      refine for_rangeC (fun i σ H2 => H = H2 ∧ ∃ (so : Nat) (x4 : Option V), σ = [some (.ref p), some (.ref q), some (.int hop), some (.int so), x4, none, none, none, none] ∧ c.length - i ≤ so ∧ so ≤ c.length ∧ (∀ j, c.length - i ≤ j → j < so → st[j]? = some none) ∧ (so < c.length → ∃ z, st[so]? = some (some z))) ?_ ?_ ?_
      · exact ⟨rfl, c.length, none, rfl, by omega, by omega, (fun j a b => by omega), fun z => by omega⟩
      · rintro i σ _ hi ⟨rfl, so, x4, rfl, g1, g2, g3, g4⟩
        have hki : c.length - (i + 1) < st.length := by omega
        obtain ⟨ev, hx, dx⟩ := row_get ha hki
        have hidx : (ps.length : Int) - 1 + (i : Nat) * (-1) = ((c.length - (i + 1) : Nat) : Int) := by omega
        have hst : st[c.length - (i + 1)]? = some (st[c.length - (i + 1)]'hki) := List.getElem?_eq_getElem _
        generalize st[c.length - (i + 1)]'hki = z at dx hst
        refine ⟨_, rfl, _, rfl, q, xs, _, ev, rfl, rfl, hs, atI_eq hidx hx, ?_⟩
        cases z with
        | none =>
          have := ent_non dx
          subst this
          refine ⟨_, rfl, iteF ⟨rfl, so, _, rfl, by omega, g2, fun j a b => ?_, g4⟩⟩
          by_cases cj : j = c.length - (i + 1)
          · rw [cj]; exact hst
          · exact g3 j (by omega) b
        | some z =>
          obtain ⟨b', a', s'⟩ := z
          obtain ⟨pe, rfl, _⟩ := ent_some dx
          refine ⟨_, rfl, iteT ⟨_, rfl, rfl, c.length - (i + 1), some (.int ((ps.length : Int) - 1 + (i : Nat) * (-1))), ?_, by omega, by omega, (fun j a b => by omega), fun _ => ⟨_, hst⟩⟩⟩
          rw [← hidx]; rfl
      · rintro σ _ ⟨rfl, so, x4, rfl, g1, g2, g3, g4⟩
        exact hNx _ _ ⟨rfl, so, x4, rfl, by omega, g2, fun j a b => g3 j (by omega) b, g4⟩
    rintro σ' _ ⟨rfl, so, x4, rfl, t1, t2, t3, t4⟩
    refine sq_asg ⟨by show 3 ≤ sizeLine; decide, fun z0 hz0 => ?_⟩
    have e0 : Same H (upd H z0 (.tup [.int 0, .int 0, .int 0])) := same_new hz0
    have hz0' : (upd H z0 (.tup [.int 0, .int 0, .int 0])) z0 = some (.tup [.int 0, .int 0, .int 0]) := upd_same
    generalize upd H z0 (.tup [.int 0, .int 0, .int 0]) = H' at e0 hz0'
    refine sq_c ?_
    let r0 := askS (c.drop so) (st.drop so)
    refine seqM (t := tIfS _ _ _) (fun σ H2 => H' = H2 ∧ ∃ (pe : Addr) (a0 : Int), σ = [some (.ref p), some (.ref q), some (.int hop), some (.int so), x4, some (.ref pe), some (.int r0.told), none, none] ∧ SqT K H' pe [.int r0.b, .int a0, .int r0.s]) (fun Nx hNx => ?_) ?_
    · by_cases ct : so < c.length
      · obtain ⟨z, hz⟩ := t4 ct
        obtain ⟨b, a, s'⟩ := z
        have hr0 : r0 = ⟨st.drop so, b, s', if c[so].tells = true then a else 0⟩ := askS_some (by omega) hz
        obtain ⟨x, hx, dx⟩ := DpAll.get ha (i := so) (d := dE (some (b, a, s'))) (by rw [List.getElem?_map, hz]; rfl)
        obtain ⟨px, rfl, hpx⟩ := ent_some dx
        have hpx := Evl.ex_t e0 hpx
        obtain ⟨pr, hpr, hpt⟩ := prof_get hpa ct
        refine ⟨_, rfl, _, rfl, p, ps, rfl, .inl (Evl.ex_l e0 hp), _, _, rfl, rfl, _, rfl, iteTd (by omega) ?_⟩
        refine ⟨_, rfl, _, rfl, q, xs, _, _, rfl, rfl, Evl.ex_t e0 hs, atI_nat hx, ?_⟩
        refine ⟨_, rfl, _, rfl, p, ps, _, _, rfl, rfl, Evl.ex_l e0 hp, atI_nat hpr, _, _, _, _, rfl, rfl, Evl.ex_t e0 hpt, rfl, ?_⟩
        cases e : c[so].tells with
        | true =>
          refine ⟨_, rfl, iteT ⟨_, rfl, _, _, _, _, rfl, rfl, hpx, rfl, hNx _ _ ⟨rfl, px, a, ?_, ?_⟩⟩⟩
          · rw [hr0, e]; rfl
          · rw [hr0]; exact hpx
        | false =>
          refine ⟨_, rfl, iteF (hNx _ _ ⟨rfl, px, a, ?_, ?_⟩)⟩
          · rw [hr0, e]; rfl
          · rw [hr0]; exact hpx
      · have hr0 : r0 = ⟨st.drop so, 0, 0, 0⟩ := askS_nil (by omega)
        refine ⟨_, rfl, _, rfl, p, ps, rfl, .inl (Evl.ex_l e0 hp), _, _, rfl, rfl, _, rfl, iteFd (by omega) (hNx _ _ ⟨rfl, z0, 0, ?_, ?_⟩)⟩
        · rw [hr0]; rfl
        · rw [hr0]; exact .of hz0'
    rintro σ' _ ⟨rfl, pe, a0, rfl, hpe⟩
    have hs := Evl.ex_t e0 hs
    have ha := Dp.monoAll e0 _ _ ha
    have hp := Evl.ex_l e0 hp
    have hpa := Dp.monoAll e0 _ _ hpa
    have hr0 : r0.row = st.drop so := by
      by_cases ct : so < c.length
      · obtain ⟨⟨b, a, s'⟩, hz⟩ := t4 ct
        exact congrArg Ask.row (askS_some (by omega) hz)
      · exact congrArg Ask.row (askS_nil (j := so) (by omega))
    refine ⟨_, rfl, q, xs, rfl, .inr hs, fun L hL => ?_⟩
    refine ⟨_, rfl, _, _, rfl, rfl, _, rfl, _, _, rfl, rfl, _, rfl, (so : Int) - 1, (hop : Int) - 2, -1, so + 1 - hop, rfl, ?_, ?_⟩
    · have := RgC.neg (i := (so : Int) - 1) (j := (hop : Int) - 2) (by omega) (by omega) (by omega) (by omega)
      rw [show ((so : Int) - 1 - ((hop : Int) - 2)).toNat = so + 1 - hop by omega] at this
      exact this
    refine for_rangeC (fun i σ H2 => ∃ es x4 x8, Same H' H2 ∧ H2 L = some (.lst es) ∧
        σ = [some (.ref p), some (.ref q), some (.int hop), some (.int so), x4, some (.ref pe), some (.int (askS (c.drop (so - i)) (st.drop (so - i))).told), some (.ref L), x8] ∧
        (askS (c.drop (so - i)) (st.drop (so - i))).b = r0.b ∧ (askS (c.drop (so - i)) (st.drop (so - i))).s = r0.s ∧
        es.length = st.length ∧ ∀ (j : Nat) (v : V), es[j]? = some v → ∃ e, (st.take (so - i) ++ (askS (c.drop (so - i)) (st.drop (so - i))).row)[j]? = some e ∧ Dp K H2 v (dE e)) ?_ ?_ ?_
    · refine ⟨xs, x4, none, same_new hL, upd_same, rfl, rfl, rfl, hxl, fun j v hj => ?_⟩
      obtain ⟨e, h1, h2⟩ := row_get' ha hj
      refine ⟨e, ?_, Dp.mono (same_new hL) _ _ h2⟩
      show (st.take so ++ r0.row)[j]? = _
      rw [hr0, List.take_append_drop]; exact h1
    · rintro i σ H2 hi ⟨es, x4, x8, e, hes, rfl, hb, hss, hle2, hall⟩
      have hj1 : so - i = (so - (i + 1)) + 1 := by omega
      generalize hj : so - (i + 1) = j at hj1 ⊢
      rw [hj1] at hb hss hall ⊢
      have hjc : j < c.length := by omega
      have hst : st[j]? = some none := t3 j (by omega) (by omega)
      have key := askS_none hjc hst
      generalize hr : askS (c.drop (j + 1)) (st.drop (j + 1)) = r at key hb hss hall
      dsimp only at key
      obtain ⟨pr, hpr, hpt⟩ := prof_get hpa hjc
      have hpt := Evl.ex_t e hpt
      have hpp := Evl.ex_l e hp
      have hpe2 := Evl.ex_t e hpe
      have hidx : (so : Int) - 1 + (i : Nat) * (-1) = (j : Nat) := by omega
      generalize ha0 : iniAge c[j].dates r.told r.s = a1 at key
      refine gN ?_
      refine seqM (t := tAsg _ _) (fun σ H3 => H2 = H3 ∧ σ = [some (.ref p), some (.ref q), some (.int hop), some (.int so), some (.int ((so : Int) - 1 + (i : Nat) * (-1))), some (.ref pe), some (.int r.told), some (.ref L), some (.int a1)]) (fun Nx hNx => ?_) ?_
      · refine ⟨_, rfl, _, rfl, p, ps, _, _, rfl, rfl, hpp, atI_eq hidx hpr, _, _, _, _, rfl, rfl, hpt, rfl, ?_⟩
        cases ed : c[j].dates with
        | true =>
          refine ⟨_, rfl, iteT ⟨_, rfl, _, rfl, _, _, _, _, rfl, rfl, hpe2, rfl, _, _, rfl, hNx _ _ ⟨rfl, ?_⟩⟩⟩
          rw [← ha0, ed, hss]; rfl
        | false =>
          refine ⟨_, rfl, iteF ⟨_, rfl, hNx _ _ ⟨rfl, ?_⟩⟩⟩
          rw [← ha0, ed]; rfl
      rintro _ _ ⟨rfl, rfl⟩
      have hjes : j < es.length := by rw [hle2, hle]; exact hjc
      have hLH : H' L = none := hL
      have fin : ∀ (H3 : Hp) (v : V), Same H2 H3 → Dp K H3 v (dE (if a1 < c[j].lim then some (r.b, a1, r.s) else none)) → H3 L = some (.lst es) →
          (Same H' (upd H3 L (.lst (es.set j v))) ∧ (upd H3 L (.lst (es.set j v))) L = some (.lst (es.set j v)) ∧ (es.set j v).length = st.length ∧
            ∀ (j1 : Nat) (u : V), (es.set j v)[j1]? = some u → ∃ e, (st.take j ++ (askS (c.drop j) (st.drop j)).row)[j1]? = some e ∧ Dp K (upd H3 L (.lst (es.set j v))) u (dE e)) := fun H3 v e3 d3 h3 => by
        have sl : SameL H3 (upd H3 L (.lst (es.set j v))) := (SameL.refl _).mut h3
        refine ⟨same_mut (e.trans e3) hLH, upd_same, by rw [List.length_set, hle2], fun j1 u hu => ?_⟩
        have hstlen : (st.take j).length = j := by rw [List.length_take]; omega
        rw [key]
        by_cases cj : j1 = j
        · subst cj
          rw [List.getElem?_set_self hjes] at hu
          cases hu
          refine ⟨_, ?_, Dp.monoL sl _ _ (noL_dE _) d3⟩
          rw [List.getElem?_append_right (by omega), hstlen, Nat.sub_self]; rfl
        · rw [List.getElem?_set_ne (fun z => cj z.symm)] at hu
          obtain ⟨e', q1, q2⟩ := hall j1 u hu
          refine ⟨e', ?_, Dp.monoL ((SameL.of e3).trans sl) _ _ (noL_dE _) q2⟩
          rw [← q1]
          have hl2 : (st.take (j + 1)).length = j + 1 := by rw [List.length_take]; omega
          by_cases cl : j1 < j
          · rw [List.getElem?_append_left (by omega), List.getElem?_append_left (by omega), List.getElem?_take_of_lt cl, List.getElem?_take_of_lt (by omega)]
          · rw [List.getElem?_append_right (by omega), List.getElem?_append_right (by omega), hstlen, hl2]
            show (_ :: r.row)[j1 - j]? = _
            rw [show j1 - j = (j1 - (j + 1)) + 1 by omega]
            rfl
      have fin2 : ∀ (H4 : Hp) (es' : List V) (x4 : Option V), Same H' H4 → H4 L = some (.lst es') → es'.length = st.length →
          (∀ (j1 : Nat) (u : V), es'[j1]? = some u → ∃ e, (st.take j ++ (askS (c.drop j) (st.drop j)).row)[j1]? = some e ∧ Dp K H4 u (dE e)) →
          ∃ (es : List V) (x4' x8 : Option V), Same H' H4 ∧ H4 L = some (.lst es) ∧
            [some (.ref p), some (.ref q), some (.int hop), some (.int so), x4, some (.ref pe), some (.int (if c[j].tells = true then a1 else 0)), some (.ref L), some (.int a1)] =
            [some (.ref p), some (.ref q), some (.int hop), some (.int so), x4', some (.ref pe), some (.int (askS (c.drop j) (st.drop j)).told), some (.ref L), x8] ∧
            (askS (c.drop j) (st.drop j)).b = r0.b ∧ (askS (c.drop j) (st.drop j)).s = r0.s ∧ es.length = st.length ∧
            ∀ (j1 : Nat) (u : V), es[j1]? = some u → ∃ e, (st.take j ++ (askS (c.drop j) (st.drop j)).row)[j1]? = some e ∧ Dp K H4 u (dE e) := fun H4 es' x4 q1 q2 q3 q4 =>
        ⟨es', _, _, q1, q2, by rw [key], by rw [key]; exact hb, by rw [key]; exact hss, q3, q4⟩
      refine ⟨_, rfl, _, rfl, _, rfl, p, ps, _, _, rfl, rfl, hpp, atI_eq hidx hpr, _, _, _, _, rfl, rfl, hpt, rfl, _, _, rfl, rfl, _, rfl, ?_⟩
      by_cases cl : a1 < c[j].lim
      · refine iteTd cl ⟨_, rfl, _, _, _, _, rfl, rfl, hpe2, rfl, _, rfl, _, rfl, _, _, _, _, rfl, rfl, hpe2, rfl, by show 3 ≤ sizeLine; decide, fun pn hpn => ?_⟩
        have d3 : Dp K (upd H2 pn (.tup [.int r0.b, .int a1, .int r0.s])) (.ref pn) (dE (if a1 < c[j].lim then some (r.b, a1, r.s) else none)) := by
          rw [if_pos cl, hb, hss]; exact ent_new
        have h3 : (upd H2 pn (.tup [.int r0.b, .int a1, .int r0.s])) L = some (.lst es) := by rw [upd_ne (ne_of_none hes hpn)]; exact hes
        obtain ⟨f1, f2, f3, f4⟩ := fin _ (.ref pn) (same_new hpn) d3 h3
        refine ⟨_, rfl, _, rfl, L, es, _, j, rfl, rfl, h3, ixN_eq hidx hjes, ?_⟩
        have hpt' : SqT K (upd (upd H2 pn (.tup [.int r0.b, .int a1, .int r0.s])) L (.lst (es.set j (.ref pn)))) pr [.int c[j].lim, .bl c[j].tells, .bl c[j].dates] := sqT_L ((SameL.of (same_new hpn)).trans ((SameL.refl _).mut h3)) hpt
        refine ⟨_, rfl, _, rfl, p, ps, _, _, rfl, rfl, Evl.ex_l f1 hp, atI_eq hidx hpr, _, _, _, _, rfl, rfl, hpt', rfl, _, rfl, ?_⟩
        have z := fin2 _ _ (some (.int ((so : Int) - 1 + (i : Nat) * (-1)))) f1 f2 f3 f4
        cases ct : c[j].tells with
        | true => rw [ct] at z; exact iteT ⟨_, rfl, z⟩
        | false => rw [ct] at z; exact iteF z
      · refine iteFd cl ?_
        have d3 : Dp K H2 .non (dE (if a1 < c[j].lim then some (r.b, a1, r.s) else none)) := by
          rw [if_neg cl]; exact .non
        obtain ⟨f1, f2, f3, f4⟩ := fin _ .non (Same.refl _) d3 hes
        refine ⟨_, rfl, _, rfl, L, es, _, j, rfl, rfl, hes, ixN_eq hidx hjes, ?_⟩
        have hpt' : SqT K (upd H2 L (.lst (es.set j .non))) pr [.int c[j].lim, .bl c[j].tells, .bl c[j].dates] := sqT_L ((SameL.refl _).mut hes) hpt
        refine ⟨_, rfl, _, rfl, p, ps, _, _, rfl, rfl, Evl.ex_l f1 hp, atI_eq hidx hpr, _, _, _, _, rfl, rfl, hpt', rfl, _, rfl, ?_⟩
        have z := fin2 _ _ (some (.int ((so : Int) - 1 + (i : Nat) * (-1)))) f1 f2 f3 f4
        cases ct : c[j].tells with
        | true => rw [ct] at z; exact iteT ⟨_, rfl, z⟩
        | false => rw [ct] at z; exact iteF z
    · rintro σ H2 ⟨es, x4, x8, e, hes, rfl, hb, hss, hle2, hall⟩
      rw [show so - (so + 1 - hop) = hop - 1 by omega] at hb hss hall ⊢
      refine ⟨_, rfl, .inl ⟨_, _, rfl, .of hes, fun tp htp => ?_⟩⟩
      have e1 : Same H2 (upd H2 tp (.tup es)) := same_new htp
      refine ⟨_, rfl, _, _, _, _, rfl, rfl, Evl.ex_t (e.trans e1) hpe, rfl, _, rfl, by show 2 ≤ sizeLine; decide, fun tq htq => ?_⟩
      refine ⟨by show 2 ≤ sizeLine; decide, fun tr htr => ?_⟩
      have e2 := e1.trans (same_new (o := .tup [.int r0.b, .int (askS (c.drop (hop - 1)) (st.drop (hop - 1))).told]) htq)
      have hrow : (asked c st hop).row.length = st.length := asked_len
      refine k _ _ (e0.trans (e.trans (e2.trans (same_new htr)))) (Dp.newT htr (.cons (Dp.mono (same_new htq) _ _ (Dp.newT htp (dpAll_of (by rw [List.length_map, hrow]; exact hle2) fun j v hj => ?_))) (.cons ?_ .nil)))
      · obtain ⟨e', q1, q2⟩ := hall j v hj
        exact ⟨dE e', by rw [List.getElem?_map]; show (Option.map dE (st.take (hop - 1) ++ _)[j]?) = _; rw [q1]; rfl, q2⟩
      · show Dp K _ _ (.tuple [.int (askS _ _).b, .int (askS _ _).told])
        rw [hb]
        exact Dp.newT htq (.cons (.int _) (.cons (.int _) .nil))
end
end K98
set_option Elab.async false
set_option linter.all false
set_option maxRecDepth 100000
set_option maxHeartbeats 4000000
namespace K98
open PySem PySem.Spec PyProof.Rows L2 Ru He6 TL
open C8 (Cal pe_c)
abbrev TP := Int × Int
def dTP (t : TP) : PyData := .tuple [.int t.1, .int t.2]
/-- the tellings of a story -/
def tellOf (both : Bool) : Tell → List TP
  | some t => [if both = true then t else (t.1, 0)]
  | none => []
def tells (c : Chain) (both : Bool) : Row → List Ev → List TP
  | _, [] => []
  | st, e :: es => tellOf both (step c st e).2 ++ tells c both (step c st e).1 es
def runRow (c : Chain) : Row → List Ev → Row
  | st, [] => st
  | st, e :: es => runRow c (step c st e).1 es
theorem tells_snoc (c : Chain) (both : Bool) : ∀ (st : Row) (es : List Ev) (e : Ev), tells c both st (es ++ [e]) = tells c both st es ++ tells c both (runRow c st es) [e]
  | _, [], _ => rfl
  | st, x :: es, e => by
    show _ ++ tells c both _ (es ++ [e]) = (_ ++ tells c both _ es) ++ tells c both (runRow c _ es) [e]
    rw [tells_snoc c both _ es e, List.append_assoc]
theorem runRow_snoc (c : Chain) : ∀ (st : Row) (es : List Ev) (e : Ev), runRow c st (es ++ [e]) = (step c (runRow c st es) e).1
  | _, [], _ => rfl
  | st, x :: es, e => runRow_snoc c _ es e
theorem runRow_len (c : Chain) : ∀ (st : Row) (es : List Ev), st.length = c.length → (runRow c st es).length = c.length
  | _, [], h => h
  | st, x :: es, h => runRow_len c _ es (step_len h)
theorem tells_len (c : Chain) (both : Bool) : ∀ (st : Row) (es : List Ev), (tells c both st es).length ≤ es.length
  | _, [] => Nat.le_refl _
  | st, e :: es => by
    show (_ ++ tells c both _ es).length ≤ _
    rw [List.length_append, List.length_cons]
    have := tells_len c both (step c st e).1 es
    have h1 : (tellOf both (step c st e).2).length ≤ 1 := by
      cases (step c st e).2 <;> simp [tellOf]
    omega
theorem sh_ev (e : Ev) : SeqAt.shaped (dEv e) = true := by
  cases e with
  | wait => decide +kernel
  | change => decide +kernel
  | ask h => kernel_rfl
section
variable {P : Program} {w : World} {K : PySem.W.Frag} {mg : Str → Option Value} {base : Heap}
theorem sc_law_is_step : FnScope ["_law_event", "_law_hops"] ["_law_event", "_law_hops"] (defScope s_law_is_step) := ⟨rfl, rfl, rfl, by decide +kernel, rfl, by decide +kernel, by decide +kernel⟩
def sp_law_is_step (K : PySem.W.Frag) : Sp := fun vs H Q _ => ∃ v e n, vs = [v, .int (n : Nat)] ∧ Dp K H v (dEv e) ∧ evOk n e ∧ ∀ H', Same H H' → Q (.bl true) H'
theorem ok_law_is_step (T : TT K mg) : Cal P w K mg base 1 "_law_is_step" (sp_law_is_step K) [] := by
  refine cal_of (f_law_is_step T) (g_law_is_step T) sc_law_is_step (fun _ _ _ _ _ _ us hl => match us, hl with | [_, _], _ => rfl) (fun vs H Q E h => ?_) (fun cdv A outer s H vs Q E hr h => ?_)
  · obtain ⟨v, e, n, rfl, hv, hok, k⟩ := h; rfl
  · obtain ⟨v, e, n, rfl, hv, hok, k⟩ := h
    refine ⟨_, (pss_cons (ps_if (pt_not (pt_val (pe_callB call_isi (by rfl) (b_isinstance T) (by decide +kernel) (pa_cons (pv 0) (pa_cons (pe_bltn (v := .ty "tuple") (by rfl) (b_tuple T) boot_tuple rfl) pa_nil)))))
      (pss_one (ps_ret pe_bl))
      pss_nil)
      (pss_cons (ps_if (pt_cmpR (op_eqD hr.units) (pv 0) (pe_tup (pa_cons pe_str pa_nil)) (nomark _))
      (pss_one (ps_ret pe_bl))
      pss_nil)
      (pss_cons (ps_if (pt_cmpR (op_eqD hr.units) (pv 0) (pe_tup (pa_cons pe_str (pa_cons pe_int pa_nil))) (nomark _))
      (pss_one (ps_ret (pe_not (pe_callB call_isi (by rfl) (b_isinstance T) (by decide +kernel) (pa_cons (pe_ix ix_tup (pv 0) pe_int (fun _ _ => rfl)) (pa_cons (pe_bltn (v := .ty "bool") (by rfl) (b_bool T) boot_bool rfl) pa_nil))))))
      pss_nil)
      (pss_cons (ps_if (PW.pt (pw_or (pt_cmpR op_ne (pe_callB call_len_seq (by rfl) (b_len T) PySem.boot_len (pa_cons (pv 0) pa_nil)) pe_int (nomark _)) (pw_or (pt_cmpR op_ne (pe_ix ix_tup (pv 0) pe_int (fun _ _ => rfl)) pe_str (nomark _)) (pw_or1 (pt_cmp (pc_notN (pe_ix ix_tup (pv 0) pe_int (fun _ _ => rfl))))))))
      (pss_one (ps_ret pe_bl))
      pss_nil)
      (pss_one (ps_ret (pe_and (pe_callB call_isi (by rfl) (b_isinstance T) (by decide +kernel) (pa_cons (pe_ix ix_tup (pv 0) pe_int (fun _ _ => rfl)) (pa_cons (pe_bltn (v := .ty "int") (by rfl) (b_int T) boot_int rfl) pa_nil))) (pe_and (pe_not (pe_callB call_isi (by rfl) (b_isinstance T) (by decide +kernel) (pa_cons (pe_ix ix_tup (pv 0) pe_int (fun _ _ => rfl)) (pa_cons (pe_bltn (v := .ty "bool") (by rfl) (b_bool T) boot_bool rfl) pa_nil)))) (pe_one (pe_chain op_le op_le pe_int (pe_ix ix_tup (pv 0) pe_int (fun _ _ => rfl)) (pv 1))))))))))), ?_⟩
    have shc : SeqAt.shaped (PyData.tuple [.str "change"]) = true := by decide +kernel
    have shw : SeqAt.shaped (PyData.tuple [.str "wait", .int 1]) = true := by decide +kernel
    cases e with
    | wait =>
      obtain ⟨p, rfl, hp⟩ := ev_wait hv
      refine ⟨_, rfl, _, _, _, _, true, rfl, .ty "tuple", tyT hp, kit_ty (by decide +kernel), _, rfl, iteF ?_⟩
      refine ⟨_, rfl, by show 1 ≤ sizeLine; decide, fun q hq => ?_⟩
      have e1 : Same H (upd H q (.tup [.str "change"])) := same_new hq
      refine ⟨_, _, Dp.mono e1 _ _ hv, .tup (.of upd_same) (.cons (.str _) .nil), by decide +kernel, shc, _, rfl, ?_⟩
      rw [show PyData.eqv (dEv .wait) (.tuple [.str "change"]) = false by decide +kernel]
      refine iteF ⟨_, rfl, by show 2 ≤ sizeLine; decide, fun r hr => ?_⟩
      have e2 := e1.trans (same_new (o := .tup [.str "wait", .int 1]) hr)
      refine ⟨_, _, Dp.mono e2 _ _ hv, .tup (.of upd_same) (.cons (.str _) (.cons (.int _) .nil)), by decide +kernel, shw, _, rfl, ?_⟩
      rw [show PyData.eqv (dEv .wait) (.tuple [.str "wait", .int 1]) = true by decide +kernel]
      exact iteT ⟨_, rfl, _, _, _, _, rfl, rfl, Evl.ex_t e2 hp, rfl, _, _, _, _, false, rfl, .ty "bool", .base (.int 1), kit_ty (by decide +kernel), _, rfl, k _ e2⟩
    | change =>
      obtain ⟨p, rfl, hp⟩ := ev_change hv
      refine ⟨_, rfl, _, _, _, _, true, rfl, .ty "tuple", tyT hp, kit_ty (by decide +kernel), _, rfl, iteF ?_⟩
      refine ⟨_, rfl, by show 1 ≤ sizeLine; decide, fun q hq => ?_⟩
      have e1 : Same H (upd H q (.tup [.str "change"])) := same_new hq
      refine ⟨_, _, Dp.mono e1 _ _ hv, .tup (.of upd_same) (.cons (.str _) .nil), by decide +kernel, shc, _, rfl, ?_⟩
      rw [show PyData.eqv (dEv .change) (.tuple [.str "change"]) = true by decide +kernel]
      exact iteT (k _ e1)
    | ask h =>
      obtain ⟨p, rfl, hp⟩ := ev_ask hv
      refine ⟨_, rfl, _, _, _, _, true, rfl, .ty "tuple", tyT hp, kit_ty (by decide +kernel), _, rfl, iteF ?_⟩
      refine ⟨_, rfl, by show 1 ≤ sizeLine; decide, fun q hq => ?_⟩
      have e1 : Same H (upd H q (.tup [.str "change"])) := same_new hq
      refine ⟨_, _, Dp.mono e1 _ _ hv, .tup (.of upd_same) (.cons (.str _) .nil), sh_ev _, shc, _, rfl, ?_⟩
      rw [show PyData.eqv (dEv (.ask h)) (.tuple [.str "change"]) = false by rfl]
      refine iteF ⟨_, rfl, by show 2 ≤ sizeLine; decide, fun r hr => ?_⟩
      have e2 := e1.trans (same_new (o := .tup [.str "wait", .int 1]) hr)
      refine ⟨_, _, Dp.mono e2 _ _ hv, .tup (.of upd_same) (.cons (.str _) (.cons (.int _) .nil)), sh_ev _, shw, _, rfl, ?_⟩
      rw [show PyData.eqv (dEv (.ask h)) (.tuple [.str "wait", .int 1]) = false by rfl]
      have hp2 := Evl.ex_t e2 hp
      refine iteF ⟨_, rfl, p, _, rfl, .inr hp2, rfl, _, rfl, iteF ?_⟩
      refine ⟨_, rfl, _, _, _, _, rfl, rfl, hp2, rfl, rfl, _, rfl, iteF ?_⟩
      refine ⟨_, rfl, _, _, _, _, rfl, rfl, hp2, rfl, _, rfl, iteF ?_⟩
      refine ⟨_, rfl, _, _, _, _, rfl, rfl, hp2, rfl, _, _, _, _, true, rfl, .ty "int", .base (.int _), kit_ty (by decide +kernel), _, rfl, iteT ?_⟩
      refine ⟨_, rfl, _, _, _, _, rfl, rfl, hp2, rfl, _, _, _, _, false, rfl, .ty "bool", .base (.int _), kit_ty (by decide +kernel), _, rfl, _, rfl, iteT ?_⟩
      refine ⟨_, rfl, _, _, _, _, rfl, rfl, hp2, rfl, _, _, rfl, rfl, _, rfl, ?_⟩
      have h1 := hok.1
      have h2 := hok.2
      rw [decide_eq_true (show (1 : Int) ≤ (h : Nat) by omega)]
      refine iteT ⟨_, rfl, _, _, rfl, rfl, ?_⟩
      show Q (.bl (decide ((h : Int) ≤ (n : Int)))) _
      rw [decide_eq_true (by omega)]
      exact k _ e2
end
end K98
set_option Elab.async false
set_option linter.all false
set_option maxRecDepth 100000
set_option maxHeartbeats 4000000
namespace K98
open PySem PySem.Spec PyProof.Rows L2 Ru He6 TL
open C8 (Cal pe_c)
theorem noL_dTP (t : TP) : noL (dTP t) = true := rfl
section
variable {P : Program} {w : World} {K : PySem.W.Frag} {mg : Str → Option Value} {base : Heap}
theorem sc_law_tellings : FnScope ["_law_profile_here", "_law_story", "_law_both", "_law_state", "_law_tellings_here", "_law_event", "_law_step", "_law_row", "_law_entry"] ["_law_profile_here", "_law_story", "_law_both"] (defScope s_law_tellings) := ⟨rfl, rfl, rfl, by decide +kernel, rfl, by decide +kernel, by decide +kernel⟩
def sp_law_tellings (K : PySem.W.Frag) : Sp := fun vs H Q _ => ∃ p l both c es evv, vs = [.ref p, .ref l, .bl both] ∧ ProfAt K H p c ∧ SqL K H l evv ∧ DpAll K H evv (es.map dEv) ∧ (∀ e ∈ es, evOk c.length e) ∧ 1 ≤ c.length ∧ c.length ≤ 20 ∧ es.length ≤ 16000000 ∧ ∀ L H' ts, Same H H' → H L = none → H' L = some (.lst ts) → DpAll K H' ts ((tells c both (List.replicate c.length none) es).map dTP) → Q (.ref L) H'
theorem ok_law_tellings (T : TT K mg) : Cal P w K mg base 2 "_law_tellings" (sp_law_tellings K) [] := by
  refine cal_of (f_law_tellings T) (g_law_tellings T) sc_law_tellings (fun _ _ _ _ _ _ us hl => match us, hl with | [_, _, _], _ => rfl) (fun vs H Q E h => ?_) (fun cdv A outer s H vs Q E hr h => ?_)
  · obtain ⟨p, l, both, c, es, evv, rfl, hp, hl, hev, hok, c1, c20, hes, k⟩ := h; rfl
  · obtain ⟨p, l, both, c, es, evv, rfl, hp, hl, hev, hok, c1, c20, hes, k⟩ := h
    refine ⟨_, (pss_cons (ps_set (i := 3) sc_law_tellings.nd rfl (.inl rfl) (pe_tupleOf (by rfl) (b_tuple T) (pe_lc (own := [("_law_row", 7)]) (g := (gName 7)) (tt := tYes) rfl sc_law_tellings.nd (pi_list (pv 0)) (blkOk_by (own := [("_law_row", 7)]) (N := ["_law_profile_here", "_law_story", "_law_both", "_law_state", "_law_tellings_here", "_law_event", "_law_step", "_law_row", "_law_entry"]) (sc := defScope s_law_tellings) (by decide +kernel)) (fun _ _ _ _ _ => (pg_name (i := 7) sc_law_tellings.nd rfl (.inl rfl))) (fun _ _ _ _ _ => pts_nil) (fun _ _ _ _ _ => pe_non))))
      (pss_cons (ps_set (i := 4) sc_law_tellings.nd rfl (.inl rfl) (pe_lst pa_nil))
      (pss_cons (ps_for PassesOwn.never rfl (pi_list (pv 1)) (pg_name (i := 5) sc_law_tellings.nd rfl (.inl rfl))
      (pss_one (ps_if (pt_cmpR op_eq (pe_ix ix_tup (pv 5) pe_int (fun _ _ => rfl)) pe_str (nomark _))
      (pss_one (ps_set (i := 3) sc_law_tellings.nd rfl (.inl rfl) (pe_tupleOf (by rfl) (b_tuple T) (pe_c (ok_law_older T) hr (by decide) (by rfl) (pa_cons (pv 0) (pa_cons (pv 3) (pa_cons pe_int pa_nil)))))))
      (pss_one (ps_if (pt_cmpR op_eq (pe_ix ix_tup (pv 5) pe_int (fun _ _ => rfl)) pe_str (nomark _))
      (pss_one (ps_set (i := 3) sc_law_tellings.nd rfl (.inl rfl) (pe_tupleOf (by rfl) (b_tuple T) (pe_lc (own := [("_law_entry", 8)]) (g := (gName 8)) (tt := tYes) rfl sc_law_tellings.nd (pi_tup (pv 3)) (blkOk_by (own := [("_law_entry", 8)]) (N := ["_law_profile_here", "_law_story", "_law_both", "_law_state", "_law_tellings_here", "_law_event", "_law_step", "_law_row", "_law_entry"]) (sc := defScope s_law_tellings) (by decide +kernel)) (fun _ _ _ _ _ => (pg_name (i := 8) sc_law_tellings.nd rfl (.inl rfl))) (fun _ _ _ _ _ => pts_nil) (fun _ _ _ _ _ => (pe_ifExp (pt_cmp (pc_isN (pv 8))) pe_non (pe_tup (pa_cons (pe_op op_add (pe_ix (r := rIxT K) ix_tup (pv 8) pe_int (fun _ _ => rfl)) pe_int) (pa_cons (pe_ix (r := rIxT K) ix_tup (pv 8) pe_int (fun _ _ => rfl)) (pa_cons (pe_ix (r := rIxT K) ix_tup (pv 8) pe_int (fun _ _ => rfl)) pa_nil))))))))))
      (pss_cons (ps_set (i := 6) sc_law_tellings.nd rfl (.inl rfl) (pe_c (ok_law_asked T) hr (by decide) (by rfl) (pa_cons (pv 0) (pa_cons (pv 3) (pa_cons (pe_ix ix_tup (pv 5) pe_int (fun _ _ => rfl)) pa_nil)))))
      (pss_cons (ps_set (i := 3) sc_law_tellings.nd rfl (.inl rfl) (pe_ix ix_tup (pv 6) pe_int (fun _ _ => rfl)))
      (pss_one (ps_expr (pe_bm PySem.F.plainAttrs_list PySem.F.slot_list_append PySem.F.type_list_append mt_append (pv 4) (pa_cons (pe_ifExp (pt_val (pv 2)) (pe_ix ix_tup (pv 6) pe_int (fun _ _ => rfl)) (pe_tup (pa_cons (pe_ix ix_tup (pe_ix ix_tup (pv 6) pe_int (fun _ _ => rfl)) pe_int (fun _ _ => rfl)) (pa_cons pe_int pa_nil)))) pa_nil)))))))))))
      (pss_one (ps_ret (pv 4)))))), ?_⟩
    obtain ⟨ps, hps, hpa⟩ := id hp
    have hpl := prof_len hpa
    have hel : evv.length = es.length := by have := DpAll.len hev; simpa using this
    refine ⟨_, rfl, p, rfl, ⟨ps, hps⟩, fun D hD => ?_⟩
    refine lc_mapR (walk_list (xs := ps)) (fun i v _ => ∃ x, (List.replicate c.length ())[i]? = some x ∧ v = .non) (fun i v _ _ _ r => r) (by rw [hpl]; exact Nat.le_trans c20 (by decide)) hD (fun H' e => Evl.ex_l e hps) ?_ ?_
    · rintro i x H1 H2 Z hi e ⟨rfl, hx⟩ kz
      exact ⟨rfl, kz _ _ ⟨(), by rw [List.getElem?_replicate, if_pos (by rw [← hpl]; exact hi)], rfl⟩ (Same.refl _)⟩
    intro H1 acc e1 hDacc hlacc hRR
    have hacc := acc_eq (xs := List.replicate c.length ()) (g := fun _ => V.non) (by rw [hlacc]; simp [hpl]) hRR
    subst hacc
    refine .inl ⟨_, _, rfl, .of hDacc, fun q hq => ?_⟩
    have e2 : Same H (upd H1 q (.tup ((List.replicate c.length ()).map fun _ => V.non))) := e1.trans (same_new hq)
    have d0 : Dp K (upd H1 q (.tup ((List.replicate c.length ()).map fun _ => V.non))) (.ref q) (dS (List.replicate c.length none)) := by
      refine .tup (.of upd_same) ?_
      have : ∀ n : Nat, DpAll K (upd H1 q (.tup ((List.replicate c.length ()).map fun _ => V.non))) ((List.replicate n ()).map fun _ => V.non) ((List.replicate n (none : Ent)).map dE) := fun n => by
        induction n with
        | zero => exact .nil
        | succ n ih => exact .cons .non ih
      exact this c.length
    generalize upd H1 q (.tup ((List.replicate c.length ()).map fun _ => V.non)) = H2 at e2 d0
    refine gN ?_
    dsimp only
    refine sq_asg ⟨by show 0 ≤ sizeLine; decide, fun L hL => ?_⟩
    have hLH : H L = none := e2.free hL
    refine ⟨_, rfl, l, rfl, ⟨evv, Evl.ex_l (e2.trans (same_new hL)) hl⟩, ?_⟩
    refine for_it (walk_list (xs := evv)) (fun i σ H' => ∃ (sv : V) (x5 x6 x7 x8 : Option V) (ts : List V), σ = [some (.ref p), some (.ref l), some (.bl both), some sv, some (.ref L), x5, x6, none, none] ∧ Same H H' ∧ Dp K H' sv (dS (runRow c (List.replicate c.length none) (es.take i))) ∧ H' L = some (.lst ts) ∧
      DpAll K H' ts ((tells c both (List.replicate c.length none) (es.take i)).map dTP)) ?_ (fun i σ H' _ ⟨_, _, _, _, _, _, _, e, _⟩ => Evl.ex_l e hl) ?_ ?_
    · exact ⟨.ref q, none, none, none, none, [], rfl, e2.trans (same_new hL), Dp.mono (same_new hL) _ _ d0, upd_same, .nil⟩
    · rintro i x σ _ H3 hi ⟨sv, x5, x6, x7, x8, ts, rfl, e, ds, hts, dts⟩ ⟨rfl, hx⟩
      have hi2 : i < es.length := by rw [← hel]; exact hi
      obtain ⟨dd, h1, h2⟩ := DpAll.get' hev hx
      rw [List.getElem?_map, List.getElem?_eq_getElem hi2] at h1
      cases h1
      have h2 := Dp.mono e _ _ h2
      have hok1 := hok _ (List.getElem_mem hi2)
      have htk : es.take (i + 1) = es.take i ++ [es[i]] := List.take_succ_eq_append_getElem hi2
      have hrl : (runRow c (List.replicate c.length none) (es.take i)).length = c.length := runRow_len c _ _ (List.length_replicate ..)
      have htl : ts.length ≤ 16000000 := by
        have h3 := DpAll.len dts
        rw [List.length_map] at h3
        have h4 := tells_len c both (List.replicate c.length none) (es.take i)
        rw [List.length_take] at h4
        omega
      rw [htk]
      have hts' : ∀ (x : List TP), tellOf both (step c (runRow c (List.replicate c.length none) (es.take i)) es[i]).2 = x → tells c both (List.replicate c.length none) (es.take i ++ [es[i]]) = tells c both (List.replicate c.length none) (es.take i) ++ x := fun x hx => by
        rw [tells_snoc]
        show _ ++ (tellOf both _ ++ []) = _
        rw [List.append_nil, hx]
      rw [runRow_snoc]
      generalize hst : runRow c (List.replicate c.length none) (es.take i) = st at *
      generalize hevi : es[i] = ev at *
      cases ev with
      | wait =>
        obtain ⟨pe, rfl, hpe⟩ := ev_wait h2
        refine ⟨_, rfl, _, _, _, _, rfl, rfl, hpe, rfl, rfl, _, rfl, iteT ?_⟩
        refine ⟨_, rfl, _, rfl, p, sv, c, st, 1, rfl, hp.mono e, ds, hrl, by omega, fun L2' H4 ss e4 _ hL2 dss => ?_⟩
        refine .inl ⟨_, _, rfl, .of hL2, fun t ht => ?_⟩
        have e5 := e4.trans (same_new (o := .tup ss) ht)
        rw [hts' [] rfl, List.append_nil]
        exact ⟨.ref t, _, _, none, none, ts, rfl, e.trans e5, .tup (.of upd_same) (Dp.monoAll (same_new ht) _ _ dss), e5 _ _ hts, Dp.monoAll e5 _ _ dts⟩
      | change =>
        obtain ⟨pe, rfl, hpe⟩ := ev_change h2
        obtain ⟨qs, xs, rfl, hs, ha⟩ := row_at ds
        have hl2 := row_len ha
        refine ⟨_, rfl, _, _, _, _, rfl, rfl, hpe, rfl, rfl, _, rfl, iteF ?_⟩
        refine ⟨_, rfl, _, _, _, _, rfl, rfl, hpe, rfl, rfl, _, rfl, iteT ?_⟩
        refine ⟨_, rfl, qs, rfl, ⟨_, hs⟩, fun D2 hD2 => ?_⟩
        refine lc_mapR (walk_tup (xs := xs)) (fun i v H' => ∃ e, st[i]? = some e ∧ Dp K H' v (dE (upE e))) (fun i v H1 H2 e ⟨x, q, r⟩ => ⟨x, q, Dp.monoL e _ _ (noL_dE _) r⟩) (by rw [hl2, hrl]; exact Nat.le_trans c20 (by decide)) hD2 (fun H' e => Evl.ex_t e hs) ?_ ?_
        · rintro i x H1 H2 Z hi e ⟨rfl, hx⟩ kz
          obtain ⟨z, hz, dz⟩ := row_get' ha hx
          have dz := Dp.mono e _ _ dz
          refine ⟨rfl, ?_⟩
          cases z with
          | none =>
            have := ent_non dz
            subst this
            exact ⟨_, rfl, _, rfl, iteT (kz _ _ ⟨_, hz, .non⟩ (Same.refl _))⟩
          | some z =>
            obtain ⟨b, a, s⟩ := z
            obtain ⟨q, rfl, hq⟩ := ent_some dz
            refine ⟨_, rfl, _, rfl, iteF ?_⟩
            refine ⟨_, rfl, _, _, _, _, rfl, rfl, hq, rfl, _, _, rfl, rfl, ⟨_, rfl, _, _, _, _, rfl, rfl, hq, rfl, _, rfl, _, _, _, _, rfl, rfl, hq, rfl, ?_, fun p np => ?_⟩⟩
            · show 3 ≤ sizeLine; decide
            · exact kz _ _ ⟨_, hz, ent_new⟩ (same_new np)
        intro H4 acc e4 hDacc hlacc hR
        refine .inl ⟨_, _, rfl, .of hDacc, fun t ht => ?_⟩
        have e5 := e4.trans (same_new (o := .tup acc) ht)
        rw [hts' [] rfl, List.append_nil]
        refine ⟨.ref t, _, _, none, none, ts, rfl, e.trans e5, Dp.newT ht (dpAll_of (by simp [hlacc, hl2, step]) fun i v ei => ?_), e5 _ _ hts, Dp.monoAll e5 _ _ dts⟩
        obtain ⟨z, hz, dz⟩ := hR i v ei
        exact ⟨dE (upE z), by simp [step, hz], dz⟩
      | ask h =>
        obtain ⟨pe, rfl, hpe⟩ := ev_ask h2
        refine ⟨_, rfl, _, _, _, _, rfl, rfl, hpe, rfl, rfl, _, rfl, iteF ?_⟩
        refine ⟨_, rfl, _, _, _, _, rfl, rfl, hpe, rfl, rfl, _, rfl, iteF ?_⟩
        refine ⟨_, rfl, _, rfl, _, rfl, _, _, _, _, rfl, rfl, hpe, rfl, ?_⟩
        refine ⟨p, sv, c, st, h, rfl, hp.mono e, ds, hrl, by omega, hok1.1, hok1.2, fun r H4 e4 dr => ?_⟩
        obtain ⟨pr, ra, rb, rfl, hpr, dra, drb⟩ := two_at dr
        obtain ⟨pb, vb1, vb2, rfl, hpb, db1, db2⟩ := two_at drb
        cases db1.intI
        cases db2.intI
        refine ⟨_, rfl, _, _, _, _, rfl, rfl, hpr, rfl, ?_⟩
        have hts4 := e4 _ _ hts
        have fin : ∀ (H5 : Hp) (v5 : V) (t5 : TP), Same H4 H5 → Dp K H5 v5 (dTP t5) → tellOf both (step c st (.ask h)).2 = [t5] → ∃ (sv' : V) (x5' x6' x7' x8' : Option V) (ts' : List V), [some (.ref p), some (.ref l), some (.bl both), some ra, some (.ref L), some (.ref pe), some (.ref pr), none, none] = [some (.ref p), some (.ref l), some (.bl both), some sv', some (.ref L), x5', x6', none, none] ∧ Same H (upd H5 L (.lst (ts ++ [v5]))) ∧
            Dp K (upd H5 L (.lst (ts ++ [v5]))) sv' (dS (step c st (.ask h)).1) ∧ (upd H5 L (.lst (ts ++ [v5]))) L = some (.lst ts') ∧ DpAll K (upd H5 L (.lst (ts ++ [v5]))) ts' ((tells c both (List.replicate c.length none) (es.take i ++ [.ask h])).map dTP) := fun H5 v5 t5 e5 d5 ht5 => by
          have sl : SameL H5 (upd H5 L (.lst (ts ++ [v5]))) := (SameL.refl _).mut (e5 _ _ hts4)
          refine ⟨ra, _, _, none, none, ts ++ [v5], rfl, same_mut (e.trans (e4.trans e5)) hLH, Dp.monoL sl _ _ (noL_dS _) (Dp.mono e5 _ _ dra), upd_same, ?_⟩
          rw [hts' _ ht5, List.map_append]
          refine DpAll.append (Dp.monoLs sl _ _ (noLs_all fun x hx => ?_) (Dp.monoAll (e4.trans e5) _ _ dts)) (.cons (Dp.monoL sl _ _ rfl d5) .nil)
          obtain ⟨y, _, rfl⟩ := List.mem_map.mp hx
          exact noL_dTP y
        refine ⟨_, rfl, .inl ⟨rfl, _, .of hts4⟩, _, rfl, _, rfl, ?_⟩
        have hsz : ts.length < sizeLine := Nat.lt_of_le_of_lt htl (by decide)
        cases both with
        | true =>
          exact iteT ⟨_, rfl, _, _, _, _, rfl, rfl, hpr, rfl, L, ts, _, rfl, rfl, hts4, hsz, fin H4 (.ref pb) ((asked c st h).b, (asked c st h).told) (Same.refl _) drb rfl⟩
        | false =>
          refine iteF ⟨_, rfl, _, _, _, _, rfl, rfl, hpr, rfl, _, _, _, _, rfl, rfl, hpb, rfl, by show 2 ≤ sizeLine; decide, fun t ht => ?_⟩
          exact ⟨L, ts, _, rfl, rfl, (same_new ht) _ _ hts4, hsz, fin _ (.ref t) ((asked c st h).b, 0) (same_new ht) (two_new ht (.int _) (.int _)) rfl⟩
    · rintro σ H3 ⟨sv, x5, x6, x7, x8, ts, rfl, e, ds, hts, dts⟩
      rw [hel, List.take_length] at dts
      exact ⟨_, rfl, k L H3 ts e hLH hts dts⟩
end
end K98
set_option Elab.async false
set_option linter.all false
set_option maxRecDepth 100000
set_option maxHeartbeats 4000000
namespace K98
open PySem PySem.Spec PyProof.Rows L2 Ru He6 TL
open C8 (Cal pe_c)
theorem lay_TP : ∀ xs : List TP, PyData.canLayAll0 (xs.map dTP) = true
  | [] => rfl
  | x :: xs => by
    have := lay_TP xs
    simp [PyData.canLayAll0, dTP, PyData.canLay0, this]
theorem depth_TP : ∀ xs : List TP, PyData.depthAll (xs.map dTP) ≤ 2
  | [] => by simp [PyData.depthAll]
  | x :: xs => by
    have := depth_TP xs
    simp only [List.map_cons, PyData.depthAll, dTP, PyData.depth]
    omega
theorem sh_TPs (xs : List TP) : SeqAt.shaped (.list (xs.map dTP)) = true := by
  unfold SeqAt.shaped
  have h1 := lay_TP xs
  have h2 := depth_TP xs
  rw [show (PyData.list (xs.map dTP)).canLay0 = true from by simpa [PyData.canLay0] using h1]
  have : (PyData.list (xs.map dTP)).depth ≤ 64 := by simp only [PyData.depth]; omega
  simp [this]
theorem eqv_TPs (xs : List TP) : PyData.eqv (.list (xs.map dTP)) (.list (xs.map dTP)) = true :=
  SeqAt.eqv_refl _ (SeqAt.canLay_of_shaped (sh_TPs xs))
theorem eqv_TP (t r : TP) (h : t ≠ r) : PyData.eqv (dTP t) (dTP r) = false := by
  show (t.1 == r.1 && (t.2 == r.2 && true)) = false
  obtain ⟨a, b⟩ := t
  obtain ⟨c, d⟩ := r
  by_cases h1 : a = c
  · by_cases h2 : b = d
    · subst h1 h2; exact absurd rfl h
    · simp [h2]
  · simp [h1]
theorem cut_last {α : Type} (xs : List α) (v : α) : ((xs ++ [v]).drop (HT.sIx (xs ++ [v]).length 0 none)).take (HT.sIx (xs ++ [v]).length (xs ++ [v]).length (some (-1)) - HT.sIx (xs ++ [v]).length 0 none) = xs := by
  have h1 : HT.sIx (xs ++ [v]).length (xs ++ [v]).length (some (-1)) = xs.length := by
    show (if (-1 : Int) < 0 then ((-1 : Int) + ((xs ++ [v]).length : Int)).toNat else min (-1 : Int).toNat (xs ++ [v]).length) = _
    rw [if_pos (by decide), List.length_append, List.length_singleton]
    omega
  rw [h1, HT.sIx_none]
  simp
theorem at_last {α : Type} (xs : List α) (v : α) : atI (xs ++ [v]) (-1) = some v := atI_neg1 (by simp) (by simp)
theorem DpAll.snoc {K : PySem.W.Frag} {H : Hp} {vs : List V} {ds : List PyData} {d : PyData} (h : DpAll K H vs (ds ++ [d])) : ∃ us u, vs = us ++ [u] ∧ DpAll K H us ds ∧ Dp K H u d := by
  induction ds generalizing vs with
  | nil =>
    cases h with
    | cons h1 h2 => cases h2; exact ⟨[], _, rfl, .nil, h1⟩
  | cons d' ds ih =>
    cases h with
    | cons h1 h2 =>
      obtain ⟨us, u, rfl, g1, g2⟩ := ih h2
      exact ⟨_ :: us, u, rfl, .cons h1 g1, g2⟩
section
variable {P : Program} {w : World} {K : PySem.W.Frag} {mg : Str → Option Value} {base : Heap}
theorem sc_law_parted : FnScope ["_law_one", "_law_two", "_law_story", "_law_both", "_law_event", "_law_left", "_law_right"] ["_law_one", "_law_two", "_law_story", "_law_both"] (defScope s_law_parted) := ⟨rfl, rfl, rfl, by decide +kernel, rfl, by decide +kernel, by decide +kernel⟩
def sp_law_parted (K : PySem.W.Frag) : Sp := fun vs H Q _ => ∃ p1 p2 l both c1 c2 es h xs t1 t2 evv, vs = [.ref p1, .ref p2, .ref l, .bl both] ∧ ProfAt K H p1 c1 ∧ ProfAt K H p2 c2 ∧ SqL K H l evv ∧ DpAll K H evv ((es ++ [Ev.ask h]).map dEv) ∧ (∀ e ∈ es ++ [Ev.ask h], evOk (min c1.length c2.length) e) ∧ 1 ≤ c1.length ∧ c1.length ≤ 20 ∧ 1 ≤ c2.length ∧ c2.length ≤ 20 ∧ es.length < 16000000 ∧ tells c1 both (List.replicate c1.length none) (es ++ [.ask h]) = xs ++ [t1] ∧ tells c2 both (List.replicate c2.length none) (es ++ [.ask h]) = xs ++ [t2] ∧ t1 ≠ t2 ∧ ∀ H', Same H H' → Q (.bl true) H'
theorem ok_law_parted (T : TT K mg) : Cal P w K mg base 3 "_law_parted" (sp_law_parted K) [] := by
  refine cal_of (f_law_parted T) (g_law_parted T) sc_law_parted (fun _ _ _ _ _ _ us hl => match us, hl with | [_, _, _, _], _ => rfl) (fun vs H Q E h => ?_) (fun cdv A outer s H vs Q E hr h => ?_)
  · obtain ⟨p1, p2, l, both, c1, c2, es, h, xs, t1, t2, evv, rfl, hp1, hp2, hl, hev, hok, c11, c120, c21, c220, hes, ht1, ht2, hne, k⟩ := h; rfl
  · obtain ⟨p1, p2, l, both, c1, c2, es, h, xs, t1, t2, evv, rfl, hp1, hp2, hl, hev, hok, c11, c120, c21, c220, hes, ht1, ht2, hne, k⟩ := h
    refine ⟨_, (pss_cons (ps_for PassesOwn.never rfl (pi_list (pv 2)) (pg_name (i := 4) sc_law_parted.nd rfl (.inl rfl))
      (pss_one (ps_if (pt_not (pt_val (pe_c (ok_law_is_step T) hr (by decide) (by rfl) (pa_cons (pv 4) (pa_cons (pe_callB (call_min2 rfl) (by rfl) (b_min T) (by decide +kernel) (pa_cons (pe_callB call_len_seq (by rfl) (b_len T) PySem.boot_len (pa_cons (pv 0) pa_nil)) (pa_cons (pe_callB call_len_seq (by rfl) (b_len T) PySem.boot_len (pa_cons (pv 1) pa_nil)) pa_nil))) pa_nil)))))
      (pss_one (ps_ret pe_bl))
      pss_nil)))
      (pss_cons (ps_if (PW.pt (pw_or (pt_cmpR op_eq (pe_callB call_len_seq (by rfl) (b_len T) PySem.boot_len (pa_cons (pv 2) pa_nil)) pe_int (nomark _)) (pw_or1 (pt_cmpR op_ne (pe_ix ix_tup (pe_ix ix_list (pv 2) (pe_un un_neg pe_int) (fun _ _ => rfl)) pe_int (fun _ _ => rfl)) pe_str (nomark _)))))
      (pss_one (ps_ret pe_bl))
      pss_nil)
      (pss_cons (ps_set (i := 5) sc_law_parted.nd rfl (.inl rfl) (pe_c (ok_law_tellings T) hr (by decide) (by rfl) (pa_cons (pv 0) (pa_cons (pv 2) (pa_cons (pv 3) pa_nil)))))
      (pss_cons (ps_set (i := 6) sc_law_parted.nd rfl (.inl rfl) (pe_c (ok_law_tellings T) hr (by decide) (by rfl) (pa_cons (pv 1) (pa_cons (pv 2) (pa_cons (pv 3) pa_nil)))))
      (pss_one (ps_ret (pe_and (pe_cmpR (op_eqD hr.units) (pe_slice sl_list (pv 5) po_none (po_some (pe_un un_neg pe_int))) (pe_slice sl_list (pv 6) po_none (po_some (pe_un un_neg pe_int))) (nomark _)) (pe_one (pe_cmpR (op_neD hr.units) (pe_ix ix_list (pv 5) (pe_un un_neg pe_int) (fun _ _ => rfl)) (pe_ix ix_list (pv 6) (pe_un un_neg pe_int) (fun _ _ => rfl)) (nomark _)))))))))), ?_⟩
    obtain ⟨ps1, hps1, hpa1⟩ := id hp1
    obtain ⟨ps2, hps2, hpa2⟩ := id hp2
    have hpl1 := prof_len hpa1
    have hpl2 := prof_len hpa2
    have hel : evv.length = (es ++ [Ev.ask h]).length := by have := DpAll.len hev; simpa using this
    refine ⟨_, rfl, l, rfl, ⟨evv, hl⟩, ?_⟩
    refine for_it (walk_list (xs := evv)) (fun i σ H' => (∃ x4, σ = [some (.ref p1), some (.ref p2), some (.ref l), some (.bl both), x4, none, none]) ∧ Same H H') ⟨⟨_, rfl⟩, Same.refl _⟩ (fun i σ H' _ q => Evl.ex_l q.2 hl) ?_ ?_
    · rintro i x σ _ H3 hi ⟨⟨x4, rfl⟩, e⟩ ⟨rfl, hx⟩
      have hi2 : i < (es ++ [Ev.ask h]).length := by rw [← hel]; exact hi
      obtain ⟨dd, g1, g2⟩ := DpAll.get' hev hx
      rw [List.getElem?_map, List.getElem?_eq_getElem hi2] at g1
      cases g1
      have g2 := Dp.mono e _ _ g2
      have hok1 := hok _ (List.getElem_mem hi2)
      have hmin : (if (ps2.length : Int) < (ps1.length : Int) then (ps2.length : Int) else (ps1.length : Int)) = ((min c1.length c2.length : Nat) : Int) := by
        rw [hpl1, hpl2]
        by_cases hq : (c2.length : Int) < (c1.length : Int)
        · rw [if_pos hq]; omega
        · rw [if_neg hq]; omega
      refine ⟨_, rfl, _, rfl, p1, _, rfl, .inl (Evl.ex_l e hps1), _, rfl, p2, _, rfl, .inl (Evl.ex_l e hps2), _, _, rfl, ?_⟩
      rw [hmin]
      refine ⟨_, _, _, rfl, g2, hok1, fun H4 e4 => ?_⟩
      exact ⟨_, rfl, iteF ⟨⟨_, rfl⟩, e.trans e4⟩⟩
    · rintro σ H3 ⟨⟨x4, rfl⟩, e⟩
      obtain ⟨us, u, rfl, hus, hu⟩ := DpAll.snoc (by rw [List.map_append] at hev; exact hev)
      have hu3 := Dp.mono e _ _ hu
      obtain ⟨pe, rfl, hpe⟩ := ev_ask hu3
      refine ⟨_, rfl, l, _, rfl, .inl (Evl.ex_l e hl), ?_⟩
      have hz : decide (V.int ((us ++ [V.ref pe]).length : Nat) = V.int 0) = false := by
        rw [dec_int, List.length_append]
        exact beq_false_of_ne (by simp; omega)
      refine ⟨rfl, ?_⟩
      rw [hz]
      refine ⟨_, rfl, iteF ?_⟩
      refine ⟨_, rfl, _, rfl, l, _, _, _, rfl, rfl, Evl.ex_l e hl, at_last _ _, ?_⟩
      refine ⟨_, _, _, _, rfl, rfl, hpe, rfl, rfl, _, rfl, iteF ?_⟩
      have hok1 : ∀ e ∈ es ++ [Ev.ask h], evOk c1.length e := fun e he => by
        have := hok e he
        cases e with
        | wait => trivial
        | change => trivial
        | ask j => exact ⟨this.1, by have := this.2; omega⟩
      have hok2 : ∀ e ∈ es ++ [Ev.ask h], evOk c2.length e := fun e he => by
        have := hok e he
        cases e with
        | wait => trivial
        | change => trivial
        | ask j => exact ⟨this.1, by have := this.2; omega⟩
      have hll : (es ++ [Ev.ask h]).length ≤ 16000000 := by rw [List.length_append]; simp; omega
      delta tNext
      dsimp only
      refine sq_asg ?_
      refine ⟨_, rfl, _, rfl, _, rfl, p1, l, both, c1, es ++ [Ev.ask h], _, rfl, hp1.mono e, Evl.ex_l e hl, Dp.monoAll e _ _ hev, hok1, c11, c120, hll, fun L1 H4 ts1 e4 _ hL1 dts1 => ?_⟩
      replace e4 := e.trans e4
      dsimp only
      refine sq_asg ?_
      refine ⟨_, rfl, _, rfl, _, rfl, p2, l, both, c2, es ++ [Ev.ask h], _, rfl, hp2.mono e4, Evl.ex_l e4 hl, Dp.monoAll e4 _ _ hev, hok2, c21, c220, hll, fun L2' H5 ts2 e5 _ hL2 dts2 => ?_⟩
      rw [ht1, List.map_append] at dts1
      rw [ht2, List.map_append] at dts2
      obtain ⟨us1, u1, rfl, hus1, hu1⟩ := DpAll.snoc dts1
      obtain ⟨us2, u2, rfl, hus2, hu2⟩ := DpAll.snoc dts2
      refine ⟨_, rfl, _, rfl, ?_⟩
      refine ⟨_, rfl, _, _, rfl, Evl.ex_l e5 (.of hL1), fun q1 hq1 => ?_⟩
      refine ⟨_, rfl, _, rfl, _, rfl, _, _, rfl, Evl.ex_l (same_new hq1) (.of hL2), fun q2 hq2 => ?_⟩
      have c1' : cutV (us1 ++ [u1]) none (some (-1)) = us1 := cut_last us1 u1
      have c2' : cutV (us2 ++ [u2]) none (some (-1)) = us2 := cut_last us2 u2
      rw [c1'] at hq2 ⊢
      rw [c2']
      have e6 : Same H5 (upd (upd H5 q1 (.lst us1)) q2 (.lst us2)) := (same_new hq1).trans (same_new hq2)
      have hx1 : (upd (upd H5 q1 (.lst us1)) q2 (.lst us2)) q1 = some (.lst us1) := (same_new (o := .lst us2) hq2) _ _ upd_same
      refine ⟨.list (xs.map dTP), .list (xs.map dTP), .lst (.of hx1) (Dp.monoAll (e5.trans e6) _ _ hus1), .lst (.of upd_same) (Dp.monoAll e6 _ _ hus2), sh_TPs _, sh_TPs _, ?_⟩
      rw [eqv_TPs]
      have e06 := e4.trans (e5.trans e6)
      refine ⟨_, rfl, iteT ?_⟩
      refine ⟨_, rfl, _, rfl, _, _, _, _, rfl, rfl, Evl.ex_l (e5.trans e6) (.of hL1), at_last _ _, ?_⟩
      refine ⟨_, rfl, _, rfl, _, _, _, _, rfl, rfl, Evl.ex_l e6 (.of hL2), at_last _ _, ?_⟩
      refine ⟨dTP t1, dTP t2, Dp.mono (e5.trans e6) _ _ hu1, Dp.mono e6 _ _ hu2, rfl, rfl, ?_⟩
      rw [eqv_TP t1 t2 hne]
      exact k _ e06
end
end K98
set_option Elab.async false
set_option linter.all false
set_option maxRecDepth 100000
set_option maxHeartbeats 4000000
/-! promises of defs that are called where no guard stands (repr of containers wants it): after the library's fn_of, run_fn, law_call -/
namespace Ru
open PySem PySem.Spec PyProof.Rows L2
structure FnG (P : Program) (w : World) (K : PySem.W.Frag) (mg : Str → Option Value) (base : Heap) (CX : CXT) (k : Nat) (f : Addr) (fd : FuncData) (ps : List Str) (sp : Sp) : Prop where
  len : ∀ vs H Q E, sp vs H Q E → vs.length = ps.length
  run : ∀ (A : Around) (outer : List Env) (s : Shared) (H : Hp) (args : Args) (us : List Value) (vs : List V) (Q : VK) (E : XK), Room k A → Env0 P w K mg base A outer s H → BindsTo s fd args (ps.zip us) → Vals vs us → sp vs H Q E → A.guards = some [] →
    codeAny (model P w) A (.call (.ref f) args) (CR CX outer P w H s Q E) s
theorem fn_ofG {CX : CXT} {P : Program} {w : World} {K : PySem.W.Frag} {mg : Str → Option Value} {base : Heap} {k : Nat} {f : Addr} {name qual : Str} {params : Arguments} {body : List Stmt} {scope : Scope} {dV kV doc pm cdv ct oc : Value} {an od : Option Addr}
    {osl : Array (Option Value)} {N ps : List Str} {sp : Sp} (lk : K.lookup f = some ⟨oc, od, .func (PySem.W.fnOf name qual params body scope dV kV doc pm an cdv ct), osl⟩) (hcd : PySem.W.codeIn K cdv qual = true) (S : FnScope N ps scope)
    (len : ∀ vs H Q E, sp vs H Q E → vs.length = ps.length)
    (hbody : ∀ (A : Around) (outer : List Env) (s : Shared) (H : Hp) (vs : List V) (Q : VK) (E : XK), Room k (A.deeper (envOfC qual scope s.heap.objs.size f cdv)) → A.guards = some [] → sp vs H Q E →
      ∃ t, PSs (cxOf CX P w K mg base N qual scope f cdv A outer s H E) body t ∧ t { nx := fun _ H' => Q .non H', rt := Q } (start N vs) H) :
    FnG P w K mg base CX (k + 1) f (PySem.W.fnOf name qual params body scope dV kV doc pm an cdv ct) ps sp := by
  refine ⟨len, fun A outer s H args us vs Q E hr e0 hb r hsp hgd => ?_⟩
  have hl := len _ _ _ _ hsp
  have KX : K.In s.heap := e0.mod.kin.keeps fun b o e => (e0.bs b o e).1
  have lim : s.heap.NoLimit := e0.mod.nolimit.keeps fun b o e => (e0.bs b o e).1
  have hkind : ∀ y ∈ ps.zip us, scope.names.lookup y.1 = some .local ∨ (scope.names.lookup y.1 = some .cell ∧ ((cellsFrom (s.heap.objs.size + 1) scope.names []).lookup y.1).isSome = true) := fun ⟨n, v⟩ hy => by
    rcases S.par n (List.of_mem_zip hy).1 with q | q
    · exact .inl q
    · exact .inr ⟨q, PySem.W.cellsFrom_some _ _ _ (.inl q)⟩
  refine codeAny_call_function hr.depth (KX _ _ lk) rfl S.co S.gen rfl (PySem.W.codeRec_of KX hcd) (hb _ _ _ _ ?_)
  refine wpAny_newFunctionEnv_cells S.kind hkind fun env he s1 x => ?_
  subst he
  refine ⟨lim.keeps x.toInCall.keep, codeAny_func ?_⟩
  obtain ⟨t, ht, hq⟩ := hbody A outer s H vs Q E (hr.deeper _) hgd hsp
  have I : Inv (cxOf CX P w K mg base N qual scope f cdv A outer s H E) [] (start N vs) H s1 := inv_start S hr.hd e0 hl r x
  refine wpAny_mono (ht.run [] s1 (start N vs) H _ I hq) (fun fl s' hs => ?_) fun e s' hs => hs
  have fin : ∀ {σ' : L2.St} {H' : Hp} {v : V} {u : Value}, Inv (cxOf CX P w K mg base N qual scope f cdv A outer s H E) [] σ' H' s' → RelV v u → Q v H' → CE outer P w H s Q u s' :=
    fun {σ' H' v u} J rv q => ⟨v, H', J.os, J.bare, J.base, J.hok, rv, q⟩
  cases fl with
  | ret u =>
    obtain ⟨v, σ', H', J, rv, q⟩ := hs
    exact fin J rv q
  | next =>
    obtain ⟨σ', H', J, q⟩ := hs
    exact fin (v := V.non) (u := Value.none) J rfl q
  | brk =>
    obtain ⟨_, _, _, q⟩ := hs
    exact False.elim q
  | cont =>
    obtain ⟨_, _, _, q⟩ := hs
    exact False.elim q
/-- a def by its name -/
structure CalG (P : Program) (w : World) (K : PySem.W.Frag) (mg : Str → Option Value) (base : Heap) (k : Nat) (x : Str) (sp : Sp) : Prop where
  ex : ∃ (f : Addr) (fd : FuncData) (ps : List Str), FnG P w K mg base CX0 k f fd ps sp ∧ mg x = some (.ref f) ∧ PySem.W.keepIn K (.ref f) = true ∧ Binds K fd ps []
section
variable {X : Cx} {k j : Nat} {sp : Sp} {x : Str} {e : Expr} {es : List Expr} {t : TA} {p pos : Pos}
theorem run_fnG {pins : List (Addr × Obj)} {σ : L2.St} {H : Hp} {s : Shared} {Q : VK} {us : List Value} {vs : List V} {f : Addr} {fd : FuncData} {ps : List Str} (F : FnG X.prog X.w X.K X.mg X.base CX0 k f fd ps sp) (hr : Room k X.A) (hgd : X.A.guards = some []) (hb : Binds X.K fd ps [])
    (I : Inv X pins σ H s) (r : Vals vs us) (h : sp vs H Q E0) : wpAny (model X.prog X.w) X.A (call (.ref f) us) (EP X pins σ Q) X.xe s := by
  have hl : (us ++ []).length = ps.length := by rw [List.append_nil, ← r.length]; exact F.len _ _ _ _ h
  have hb' := hb s us I.kIn hl
  rw [List.append_nil] at hb'
  refine wpAny_call (codeAny_mono (F.run X.A X.stack s H ⟨us, []⟩ us vs Q E0 hr I.env0 hb' r h hgd) fun r s' hq => ?_)
  cases r with
  | error e => exact False.elim hq
  | ok fl =>
    cases fl with
    | ret u => exact I.after hq
    | next => exact False.elim hq
    | brk => exact False.elim hq
    | cont => exact False.elim hq
theorem pe_cG (c : CalG X.prog X.w X.K X.mg X.base k x sp) (hr : Room j X.A) (hk : k ≤ j) (hgd : X.A.guards = some []) (hg : Gl X x) (ha : PA X (e :: es) t)
    (hdb : (x == ("__debug__" : Str)) = false := by decide) (he : starEach (e :: es) X.env = (false, eval e X.env) :: starEach es X.env := by rfl) (hpl : (backTo pos (starEach es X.env)).any (·.1) = false := by rfl) :
    PE X (.Call (.Name x p) (e :: es) [] pos) (tCall sp [] E0 t) := by
  obtain ⟨f, fd, ps, F, hm, kp, hb⟩ := c.ex
  refine ⟨fun pins s σ H Q I h => ?_⟩
  refine wpAny_Call_Name_kw (ld_glob I hg hm ?_ hdb)
  refine PySem.W.callWith_K (h₀ := X.base) I.ok.mod.kin kp (thn (ha.run pos pins s σ H _ I h) fun us s1 ⟨vs, H1, I1, r, q⟩ => ⟨I1.kIn, ?_⟩) he hpl
  exact run_fnG F (hr.mono hk) hgd hb I1 r (by simpa using q)
end
theorem law_callG {P : Program} {w : World} {K : PySem.W.Frag} {mg mb : Str → Option Value} {CX : CXT} {k : Nat} {fa a : Addr} {fd : FuncData} {x : Str} {sp : Sp} {s₁ : Shared} {vs : List Value} {ns : List Int}
    (KX : K.In s₁.heap) (hns : s₁.heap.Ns mainGlobals mg) (hb : s₁.heap.Ns builtinsNs mb) (hbb : ∀ x : Str, x ≠ "__name__" → mb x = bootBuiltins x) (hlim : s₁.heap.NoLimit) (hg : s₁.gens = #[])
    (ha : s₁.heap.get? a = some { cls := .type "list", data := .seq vs.toArray }) (hi : IntsAre vs ns) (hl : ns.length ≤ sizeLine) (hr : Room k callerA)
    (F : ∀ base : Heap, K.In base → base.Ns mainGlobals mg → FnG P w K mg base CX k fa fd [x] sp) (hbind : ∀ (s : Shared) (u : Value), BindsTo s fd ⟨[u], []⟩ [(x, u)])
    (hsp : ∀ H : Hp, Only H → SqL K H a (ns.map V.int) → sp [.ref a] H (fun v _ => v = .bl true) fun _ _ _ => False)
    (hCX : ∀ H e s', CX [] H s₁ (fun _ _ _ => False) e s' → False) :
    codeAny (model P w) callerA (.call (.ref fa) ⟨[.ref a], []⟩) (fun r s' => r = .ok (.ret (.bool true)) ∧ OldK s₁.heap s'.heap ∧ s'.os = s₁.os ∧ AllBare s'.gens) s₁ := by
  have rv := vals_ints hi
  have lenV := hi.length
  -- from an abstract heap in which nothing but the script may be tracked
  have core : ∀ H : Hp, Only H → SqL K H a (ns.map V.int) → HOk P w H s₁.heap → (∀ b, H b ≠ none → b = a) → (H a ≠ none → K.lookup a = none) →
      codeAny (model P w) callerA (.call (.ref fa) ⟨[.ref a], []⟩) (fun r s' => r = .ok (.ret (.bool true)) ∧ OldK s₁.heap s'.heap ∧ s'.os = s₁.os ∧ AllBare s'.gens) s₁ := by
    intro H hO hS hok hA hK
    have base_of : ∀ {b : Addr} {o : Obj}, s₁.heap.get? b = some o → H b = none → (hidT s₁.heap H).get? b = some o := fun e n => hidT_get e n
    have noA : ∀ {b : Addr} {o : Obj} {es : Array DictEntry} {ep : Nat}, s₁.heap.get? b = some o → o.data = .dict es ep → H b = none := fun {b o es ep} e d => by
      cases q : H b with
      | none => rfl
      | some u =>
        have e' : b = a := hA b (by rw [q]; simp)
        subst e'
        rw [ha] at e; cases e
        have d' : Data.seq vs.toArray _ = Data.dict es ep := d
        cases d'
    have nsK : ∀ {b : Addr} {m : Str → Option Value}, s₁.heap.Ns b m → (hidT s₁.heap H).Ns b m := fun {b m} ⟨o, es, ep, e, d, r⟩ => ⟨o, es, ep, base_of e (noA e d), d, r⟩
    have hKb : K.In (hidT s₁.heap H) := fun b o e => base_of (KX b o e) (by
      cases q : H b with
      | none => rfl
      | some u =>
        have e' : b = a := hA b (by rw [q]; simp)
        subst e'
        rw [hK (by rw [q]; simp)] at e; cases e)
    have hM : Mod K mg (hidT s₁.heap H) := ⟨hKb, nsK hns, ⟨mb, nsK hb, hbb⟩, let ⟨mc, h1, h2⟩ := hlim; ⟨mc, nsK h1, h2⟩⟩
    have e0 : Env0 P w K mg (hidT s₁.heap H) callerA [] s₁ H := ⟨rfl, hM, fun b o e => of_hidT e, Nat.le_of_eq (hidT_size _ _), trivial, fun b hb => absurd (show b ∈ ([] : List Addr) from hb) (by simp), hok, .of_eq hg⟩
    refine codeAny_mono ((F _ hKb (nsK hns)).run callerA [] s₁ H ⟨[.ref a], []⟩ [.ref a] [.ref a] _ _ hr e0 (hbind s₁ (.ref a)) (.cons rfl .nil) (hsp H hO hS) rfl) fun r s' h => ?_
    cases r with
    | error e => exact (hCX H e s' h).elim
    | ok fl =>
      cases fl with
      | next => exact False.elim h
      | brk => exact False.elim h
      | cont => exact False.elim h
      | ret u =>
        obtain ⟨v, H', os, bare, un, hok', r', q⟩ := h
        have q' : v = .bl true := q
        subst q'
        obtain rfl : u = Value.bool true := r'
        refine ⟨rfl, OldK.of_keep fun b o e => ?_, os, bare⟩
        cases q : H b with
        | none => exact un.keep b o e q (by intro z; exact absurd (show b ∈ ([] : List Addr) from z) (by simp)) (by simp)
        | some u =>
          rcases hO b with z | ⟨ob, xs, z⟩
          · rw [q] at z; cases z
          · have z2 := un.frzs b ob _ z
            obtain ⟨e1, _⟩ := hok b _ z
            obtain ⟨e2, _⟩ := hok' b _ z2
            rw [e] at e1; cases e1
            exact e2
  cases hk : K.lookup a with
  | some o =>
    -- the script is one of the module's own objects
    have e := KX a o hk
    rw [ha] at e
    cases e
    refine core (fun _ => none) (fun _ => .inl rfl) (.inr ⟨_, vs.toArray, _, hk, rfl, rfl, rfl, by rw [List.size_toArray, lenV]; exact hl, by simpa using rv⟩) (fun b u z => by have z' : (none : Option HO) = some u := z; cases z') (fun b z => absurd rfl z) fun z => absurd rfl z
  | none =>
    refine core (fun b => if b = a then some (.frz { cls := .type "list", data := .seq vs.toArray } (.lst (ns.map V.int))) else none) (fun b => ?_) (.inl (.inr ⟨{ cls := .type "list", data := .seq vs.toArray }, if_pos rfl⟩)) (fun b u z => ?_) (fun b z => ?_) fun _ => hk
    · by_cases hb : b = a
      · exact .inr ⟨_, _, if_pos hb⟩
      · exact .inl (if_neg hb)
    · by_cases hb : b = a
      · have z' := (if_pos hb).symm.trans z
        cases z'
        subst hb
        exact ⟨ha, by rw [List.length_map]; exact hl, vs, _, rv, ha⟩
      · have z' := (if_neg hb).symm.trans z
        cases z'
    · by_cases hb : b = a
      · exact hb
      · exact absurd (if_neg hb) z
theorem walk_ofG {l : PySem.W.OpenLaw} {n k : Nat} {q : Program} {loose : List Str} {XP : (Str → Option Value) → Heap → Prop} {YP : World → Heap → Prop} {d : DefRec} {CX : CXT} {x : Str}
    (hn : l.most = some n) (hn2 : n ≤ sizeLine) (hdf : d.params.defaults = []) (hr : Room k callerA)
    (F : ∀ (w : World) (mg : Str → Option Value) (fa : Addr) (h : Heap), YP w h → h.Ns mainGlobals mg → mg d.name = some (.ref fa) →
      ∃ (K : PySem.W.Frag) (fd : FuncData) (sp : Sp), K.In h ∧ (∀ (s : Shared) (u : Value), BindsTo s fd ⟨[u], []⟩ [(x, u)]) ∧
        (∀ (H : Hp) (a : Addr) (ns : List Int), ns.length ≤ n → Only H → SqL K H a (ns.map V.int) → sp [.ref a] H (fun v _ => v = .bl true) fun _ _ _ => False) ∧
        ∀ base : Heap, K.In base → base.Ns mainGlobals mg → FnG l.prog w K mg base CX k fa fd [x] sp)
    (hCX : ∀ (H : Hp) (s : Shared) (e : Value) (s' : Shared), CX [] H s (fun _ _ _ => False) e s' → False) :
    PySem.W.WalkO q loose XP YP l.row.toRowW d [] (fun f vs => PySem.call f vs) := by
  refine Att.attach_call hn hdf fun w s₀ s₁ mg mb fa o pm cd doc a vs ns G Y ho hd hcd hmg hobj hints hlen hg => ?_
  obtain ⟨K, fd, sp, KX, hb, hsp, hF⟩ := F w mg fa _ Y G.T.g hmg
  exact law_callG KX G.T.g G.T.b G.T.builtins G.T.nolimit hg hobj hints (Nat.le_trans hlen hn2) hr hF hb (fun H hO hS => hsp H a ns hlen hO hS) fun H e s' => hCX H s₁ e s'
end Ru
set_option Elab.async false
set_option linter.all false
set_option maxRecDepth 100000
set_option maxHeartbeats 4000000
namespace K98
open PySem PySem.Spec PyProof.Rows L2 Ru He6 TL
open C8 (Cal pe_c)
theorem textFrom_le (B : Nat) : ∀ (ts : List Str) (k : Nat) (acc : Str), (∀ t ∈ ts, t.length ≤ B) → (textFrom k acc ts).length ≤ acc.length + ts.length * (B + 2)
  | [], k, acc, _ => by show acc.length ≤ _; omega
  | t :: r, k, acc, h => by
    have ih := textFrom_le B r (k + 1) (acc ++ (if k > 0 then ", " else "" : String) ++ t) fun x hx => h x (List.mem_cons_of_mem _ hx)
    have e : (acc ++ (if k > 0 then ", " else "" : String) ++ t).length = acc.length + (if k > 0 then 2 else 0) + t.length := by
      rw [strLen_append, strLen_append]
      by_cases hk : k > 0
      · rw [if_pos hk, if_pos hk]; rfl
      · rw [if_neg hk, if_neg hk]; rfl
    have h1 := h t (List.mem_cons_self ..)
    show (textFrom (k + 1) (acc ++ (if k > 0 then ", " else "" : String) ++ t) r).length ≤ _
    rw [e] at ih
    rw [List.length_cons, Nat.add_mul]
    have e2 : (if k > 0 then 2 else 0) ≤ 2 := by split <;> omega
    omega
theorem listText_le (B : Nat) (ts : List Str) (h : ∀ t ∈ ts, t.length ≤ B) : (listText ts).length ≤ 2 + ts.length * (B + 2) := by
  unfold listText
  rw [strLen_append]
  have := textFrom_le B ts 0 "[" h
  have h1 : ("[" : Str).length = 1 := by decide +kernel
  have h2 : ("]" : Str).length = 1 := by decide +kernel
  omega
theorem shown_ask : ∀ h : Nat, h < 10 → (PyData.shown (dEv (.ask h))).length ≤ 16 := by decide +kernel
theorem shown_ev {e : Ev} (h : evOk 9 e) : (PyData.shown (dEv e)).length ≤ 16 := by
  cases e with
  | wait => decide +kernel
  | change => decide +kernel
  | ask j => exact shown_ask j (by have := h.2; omega)
theorem showable_ask : ∀ h, h < 10 → (dEv (.ask h)).showable = true := by decide +kernel
theorem showable_ev {e : Ev} (h : evOk 9 e) : (dEv e).showable = true := by
  cases e with
  | wait => decide +kernel
  | change => decide +kernel
  | ask j => exact showable_ask j (by have := h.2; omega)
theorem shownAll_mem : ∀ (es : List Ev), (∀ e ∈ es, evOk 9 e) → (∀ t ∈ PyData.shownAll (es.map dEv), t.length ≤ 16) ∧ (PyData.shownAll (es.map dEv)).length = es.length ∧ PyData.showableAll (es.map dEv) = true ∧ PyData.hasDictAll (es.map dEv) = false ∧ PyData.depthAll (es.map dEv) ≤ 2
  | [], _ => ⟨(fun t h => by simp [PyData.shownAll] at h), rfl, rfl, rfl, by simp [PyData.depthAll]⟩
  | e :: es, h => by
    obtain ⟨h1, h2, h3, h4, h5⟩ := shownAll_mem es fun x hx => h x (List.mem_cons_of_mem _ hx)
    have he := h e (List.mem_cons_self ..)
    refine ⟨fun t ht => ?_, ?_, ?_, ?_, ?_⟩
    · simp only [List.map_cons, PyData.shownAll] at ht
      rcases List.mem_cons.mp ht with q | q
      · rw [q]; exact shown_ev he
      · exact h1 t q
    · simp [PyData.shownAll, h2]
    · simp only [List.map_cons, PyData.showableAll, h3, showable_ev he]; rfl
    · simp only [List.map_cons, PyData.hasDictAll, h4]
      cases e <;> rfl
    · simp only [List.map_cons, PyData.depthAll]
      have : (dEv e).depth ≤ 2 := by cases e <;> simp [dEv, PyData.depth, PyData.depthAll]
      omega
theorem repr_evs {es : List Ev} (h : ∀ e ∈ es, evOk 9 e) (hl : es.length ≤ 900001) : (PyData.list (es.map dEv)).showable = true ∧ (PyData.list (es.map dEv)).hasDict = false ∧ (PyData.list (es.map dEv)).shown.length ≤ sizeLine ∧ (PyData.list (es.map dEv)).depth ≤ 50 := by
  obtain ⟨h1, h2, h3, h4, h5⟩ := shownAll_mem es h
  refine ⟨h3, h4, ?_, ?_⟩
  · have := listText_le 16 _ h1
    rw [h2] at this
    simp only [PyData.shown]
    have hs : sizeLine = 16777216 := rfl
    omega
  · simp only [PyData.depth]; omega
section
variable {P : Program} {w : World} {K : PySem.W.Frag} {mg : Str → Option Value} {base : Heap}
theorem calG_of {x qual : Str} {st : Stmt} {f : Addr} {N ps : List Str} {k : Nat} {sp : Sp} (F : ∃ fd, FunD K x qual (defArgs st) (defBody st) (defScope st) [] [] f fd) (hm : mg x = some (.ref f)) (S : FnScope N ps (defScope st))
    (hb : ∀ (kV doc pm : Value) (an : Option Addr) (cdv ct : Value) (us : List Value), us.length = ps.length → bindArgs (PySem.W.fnOf x qual (defArgs st) (defBody st) (defScope st) .none kV doc pm an cdv ct) ⟨us, []⟩ = pure (ps.zip us))
    (len : ∀ vs H Q E, sp vs H Q E → vs.length = ps.length)
    (hbody : ∀ (cdv : Value) (A : Around) (outer : List Env) (s : Shared) (H : Hp) (vs : List V) (Q : VK) (E : XK), Room k (A.deeper (envOfC qual (defScope st) s.heap.objs.size f cdv)) → A.guards = some [] → sp vs H Q E →
      ∃ t, PSs (cxOf CX0 P w K mg base N qual (defScope st) f cdv A outer s H E).nox (defBody st) t ∧ t { nx := fun _ H' => Q .non H', rt := Q } (start N vs) H) : CalG P w K mg base (k + 1) x sp := by
  obtain ⟨fd, F⟩ := F
  obtain ⟨oc, od, dV, kV, doc, pm, an, cdv, ct, osl, rfl, lk, hcd, hdv, hkv⟩ := id F.ex
  refine ⟨f, _, ps, fn_ofG lk hcd S len (fun A outer s H vs Q E hr hgd h => ?_), hm, F.kp, F.bindsN hb⟩
  obtain ⟨t, h1, h2⟩ := hbody cdv A outer s H vs Q E hr hgd h
  exact ⟨t, h1.nox, h2⟩
def verdOk (n : Nat) : Verd → Prop
  | .same R => True
  | .parted w => w.length ≤ 900001 ∧ Kb.dig (n + 2) w
def likeV : Verd → Verd → Prop
  | .same _, .same _ => True
  | .parted w, .parted u => w = u
  | _, _ => False
theorem word_ok {n m : Nat} (hn : n ≤ m) (w : List Nat) : ∀ e ∈ wordEv (evs n) w, evOk m e := fun e he => by
  obtain ⟨i, _, hi⟩ := List.mem_filterMap.mp he
  have hlt : i < n + 2 := by
    rw [← evs_len n]
    exact (List.getElem?_eq_some_iff.mp hi).1
  rw [evs_get hlt] at hi
  cases hi
  exact evN_ok hn
theorem two_str {H : Hp} {v : V} {x : Str} {d : PyData} (h : Dp K H v (.tuple [.str x, d])) : ∃ p u, v = .ref p ∧ SqT K H p [.str x, u] ∧ Dp K H u d := by
  obtain ⟨p, a, b, rfl, h1, h2, h3⟩ := two_at h
  cases h2.strI
  exact ⟨p, b, rfl, h1, h3⟩
theorem sc_law_is_verdict : FnScope ["_law_verdict"] ["_law_verdict"] (defScope s_law_is_verdict) := ⟨rfl, rfl, rfl, by decide +kernel, rfl, by decide +kernel, by decide +kernel⟩
def sp_law_is_verdict (K : PySem.W.Frag) : Sp := fun vs H Q _ => ∃ v n V, vs = [v] ∧ Dp K H v (dV n V) ∧ Q (.bl true) H
theorem ok_law_is_verdict (T : TT K mg) : Cal P w K mg base 1 "_law_is_verdict" (sp_law_is_verdict K) [] := by
  refine cal_of (f_law_is_verdict T) (g_law_is_verdict T) sc_law_is_verdict (fun _ _ _ _ _ _ us hl => match us, hl with | [_], _ => rfl) (fun vs H Q E h => ?_) (fun cdv A outer s H vs Q E hr h => ?_)
  · obtain ⟨v, n, V, rfl, hv, k⟩ := h; rfl
  · obtain ⟨v, n, V, rfl, hv, k⟩ := h
    refine ⟨_, (pss_cons (ps_if (PW.pt (pw_or (pt_not (pt_val (pe_callB call_isi (by rfl) (b_isinstance T) (by decide +kernel) (pa_cons (pv 0) (pa_cons (pe_bltn (v := .ty "tuple") (by rfl) (b_tuple T) boot_tuple rfl) pa_nil))))) (pw_or (pt_cmpR op_ne (pe_callB call_len_seq (by rfl) (b_len T) PySem.boot_len (pa_cons (pv 0) pa_nil)) pe_int (nomark _)) (pw_or1 (pt_not (pt_val (pe_callB call_isi (by rfl) (b_isinstance T) (by decide +kernel) (pa_cons (pe_ix ix_tup (pv 0) pe_int (fun _ _ => rfl)) (pa_cons (pe_bltn (v := .ty "list") (by rfl) (b_list T) boot_list rfl) pa_nil)))))))))
      (pss_one (ps_ret pe_bl))
      pss_nil)
      (pss_one (ps_ret (pe_or (pe_cmpR op_eq (pe_ix ix_tup (pv 0) pe_int (fun _ _ => rfl)) pe_str (nomark _)) (pe_one (pe_cmpR op_eq (pe_ix ix_tup (pv 0) pe_int (fun _ _ => rfl)) pe_str (nomark _))))))), ?_⟩
    have key : ∀ (x : Str) (d : List PyData), Dp K H v (.tuple [.str x, .list d]) → (x = "same" ∨ x = "parted") → ∃ p pl xs, v = .ref p ∧ SqT K H p [.str x, .ref pl] ∧ SqL K H pl xs := fun x d hv hx => by
      obtain ⟨p, u, rfl, hp, hu⟩ := two_str hv
      obtain ⟨pl, xs, rfl, hl, ha⟩ := hu.lstI
      exact ⟨p, pl, xs, rfl, hp, hl⟩
    cases V with
    | same R =>
      obtain ⟨p, pl, xs, rfl, hp, hl⟩ := key _ _ hv (.inl rfl)
      refine ⟨_, rfl, _, _, _, _, true, rfl, .ty "tuple", tyT hp, kit_ty (by decide +kernel), _, rfl, iteF ?_⟩
      refine ⟨_, rfl, _, _, rfl, .inr hp, rfl, _, rfl, iteF ?_⟩
      refine ⟨_, rfl, _, _, _, _, rfl, rfl, hp, rfl, _, _, _, _, true, rfl, .ty "list", tyL hl, kit_ty (by decide +kernel), _, rfl, iteF ?_⟩
      refine ⟨_, rfl, _, _, _, _, rfl, rfl, hp, rfl, rfl, _, rfl, iteT ?_⟩
      exact k
    | parted w =>
      obtain ⟨p, pl, xs, rfl, hp, hl⟩ := key _ _ hv (.inr rfl)
      refine ⟨_, rfl, _, _, _, _, true, rfl, .ty "tuple", tyT hp, kit_ty (by decide +kernel), _, rfl, iteF ?_⟩
      refine ⟨_, rfl, _, _, rfl, .inr hp, rfl, _, rfl, iteF ?_⟩
      refine ⟨_, rfl, _, _, _, _, rfl, rfl, hp, rfl, _, _, _, _, true, rfl, .ty "list", tyL hl, kit_ty (by decide +kernel), _, rfl, iteF ?_⟩
      refine ⟨_, rfl, _, _, _, _, rfl, rfl, hp, rfl, rfl, _, rfl, iteF ?_⟩
      refine ⟨_, rfl, _, _, _, _, rfl, rfl, hp, rfl, rfl, ?_⟩
      exact k
theorem sc_law_like : FnScope ["_law_one", "_law_two"] ["_law_one", "_law_two"] (defScope s_law_like) := ⟨rfl, rfl, rfl, by decide +kernel, rfl, by decide +kernel, by decide +kernel⟩
def sp_law_like (K : PySem.W.Frag) : Sp := fun vs H Q _ => ∃ v u n V U, vs = [v, u] ∧ Dp K H v (dV n V) ∧ Dp K H u (dV n U) ∧ likeV V U ∧ verdOk n V ∧ n ≤ 9 ∧ Q (.bl true) H
theorem okg_law_like (T : TT K mg) : CalG P w K mg base 1 "_law_like" (sp_law_like K) := by
  refine calG_of (f_law_like T) (g_law_like T) sc_law_like (fun _ _ _ _ _ _ us hl => match us, hl with | [_, _], _ => rfl) (fun vs H Q E h => ?_) (fun cdv A outer s H vs Q E hr hgd h => ?_)
  · obtain ⟨v, u, n, V, U, rfl, hv, hu, hlk, hvo, hn, k⟩ := h; rfl
  · obtain ⟨v, u, n, V, U, rfl, hv, hu, hlk, hvo, hn, k⟩ := h
    refine ⟨_, (pss_one (ps_ret (pe_and (pe_cmpR op_eq (pe_ix ix_tup (pv 0) pe_int (fun _ _ => rfl)) (pe_ix ix_tup (pv 1) pe_int (fun _ _ => rfl)) (nomark _)) (pe_one (pe_or (pe_cmpR op_eq (pe_ix ix_tup (pv 0) pe_int (fun _ _ => rfl)) pe_str (nomark _)) (pe_one (pe_cmpR op_eq (pe_callB (call_reprD hgd hr.units) (by rfl) (b_repr T) (by decide +kernel) (pa_cons (pe_ix ix_tup (pv 0) pe_int (fun _ _ => rfl)) pa_nil)) (pe_callB (call_reprD hgd hr.units) (by rfl) (b_repr T) (by decide +kernel) (pa_cons (pe_ix ix_tup (pv 1) pe_int (fun _ _ => rfl)) pa_nil)) (nomark _)))))))), ?_⟩
    cases V with
    | same R =>
      cases U with
      | parted w => exact hlk.elim
      | same S =>
        obtain ⟨p, a, rfl, hp, ha⟩ := two_str hv
        obtain ⟨q, b, rfl, hq, hb⟩ := two_str hu
        refine ⟨_, rfl, _, _, _, _, rfl, rfl, hp, rfl, _, rfl, _, _, _, _, rfl, rfl, hq, rfl, rfl, _, rfl, iteT ?_⟩
        refine ⟨_, rfl, _, _, _, _, rfl, rfl, hp, rfl, rfl, _, rfl, iteT ?_⟩
        exact k
    | parted w =>
      cases U with
      | same S => exact hlk.elim
      | parted x =>
        have hx : w = x := hlk
        subst hx
        obtain ⟨p, a, rfl, hp, ha⟩ := two_str hv
        obtain ⟨q, b, rfl, hq, hb⟩ := two_str hu
        obtain ⟨pa, as, rfl, hla, hda⟩ := ha.lstI
        obtain ⟨pb, bs, rfl, hlb, hdb⟩ := hb.lstI
        have hw := word_ok hn w.reverse
        have hwl : (wordEv (evs n) w.reverse).length ≤ 900001 := Nat.le_trans (List.length_filterMap_le _ _) (by rw [List.length_reverse]; exact hvo.1)
        obtain ⟨r1, r2, r3, r4⟩ := repr_evs hw hwl
        refine ⟨_, rfl, _, _, _, _, rfl, rfl, hp, rfl, _, rfl, _, _, _, _, rfl, rfl, hq, rfl, rfl, _, rfl, iteT ?_⟩
        refine ⟨_, rfl, _, _, _, _, rfl, rfl, hp, rfl, rfl, _, rfl, iteF ?_⟩
        refine ⟨_, rfl, _, _, _, _, rfl, rfl, hp, rfl, _, _, rfl, ha, r1, r2, r3, r4, ?_⟩
        refine ⟨_, rfl, _, _, _, _, rfl, rfl, hq, rfl, _, _, rfl, hb, r1, r2, r3, r4, rfl, ?_⟩
        rw [decide_eq_true rfl]
        exact k
end
end K98
set_option Elab.async false
set_option linter.all false
namespace K98
open PySem PySem.Spec PyProof.Rows L2 Ru He6 TL
theorem rank_congr {ns ms : List Int} (h : ∀ x, x ∈ ns ↔ x ∈ ms) (x : Int) : rank ns x = rank ms x := by
  have p : (ddp ns).Perm (ddp ms) := (List.perm_ext_iff_of_nodup (nodup_ddp ns) (nodup_ddp ms)).mpr fun a => by rw [mem_ddp, mem_ddp, h]
  unfold rank
  rw [(p.filter _).length_eq]
theorem nums_mem {f s : Row} {x : Int} : x ∈ 0 :: nums (f ++ s) ↔ x ∈ 0 :: nums (s ++ f) := by
  unfold nums
  rw [List.filterMap_append, List.filterMap_append]
  simp only [List.mem_cons, List.mem_append]
  constructor <;> (rintro (h | h | h) <;> simp [h])
theorem joined_swap (f s : Row) : joined s f = (joined f s).swap := by
  have : rank (0 :: nums (s ++ f)) = rank (0 :: nums (f ++ s)) := funext fun x => rank_congr (fun _ => nums_mem.symm) x
  unfold joined
  simp only [this, Prod.swap]
theorem alike_swap (ages : Bool) (t u : Tell) : alike ages u t = alike ages t u := by
  cases t with
  | none => cases u <;> rfl
  | some t => cases u with
    | none => rfl
    | some u =>
      show (u.1 == t.1 && (!ages || u.2 == t.2)) = (t.1 == u.1 && (!ages || t.2 == u.2))
      rw [BEq.comm (a := u.1), BEq.comm (a := u.2)]
theorem nx_swap (c1 c2 : Chain) (n : Nat) (p : Row × Row) (j : Nat) : nxN c2 c1 n p.swap j = (nxN c1 c2 n p j).swap := joined_swap _ _
theorem ok_swap (ages : Bool) (c1 c2 : Chain) (n : Nat) (p : Row × Row) (j : Nat) : okN ages c2 c1 n p.swap j = okN ages c1 c2 n p j := alike_swap _ _ _
theorem run_swap (ages : Bool) (c1 c2 : Chain) (n : Nat) : ∀ w, Kb.run (p0 c2 c1) (nxN c2 c1 n) (okN ages c2 c1 n) w = (Kb.run (p0 c1 c2) (nxN c1 c2 n) (okN ages c1 c2 n) w).map Prod.swap
  | [] => rfl
  | e :: u => by
    simp only [Kb.run]
    rw [run_swap ages c1 c2 n u]
    cases Kb.run (p0 c1 c2) (nxN c1 c2 n) (okN ages c1 c2 n) u with
    | none => rfl
    | some p =>
      simp only [Option.map_some, ok_swap, nx_swap]
      split <;> rfl
theorem bad_swap {ages : Bool} {c1 c2 : Chain} {n : Nat} {w : List Nat} (h : Kb.Bad (p0 c1 c2) (nxN c1 c2 n) (okN ages c1 c2 n) w) : Kb.Bad (p0 c2 c1) (nxN c2 c1 n) (okN ages c2 c1 n) w := by
  obtain ⟨e, u, p, rfl, h1, h2⟩ := h
  refine ⟨e, u, p.swap, rfl, ?_, ?_⟩
  · rw [run_swap, h1]; rfl
  · rw [ok_swap]; exact h2
theorem isV_swap {ages : Bool} {c1 c2 : Chain} {n : Nat} {R : List (Row × Row)} (h : IsV ages c1 c2 n (.same R)) : IsV ages c2 c1 n (.same (R.map Prod.swap)) := by
  obtain ⟨h1, h2, h3, h4, h5⟩ := h
  have inj : Function.Injective (Prod.swap : Row × Row → Row × Row) := fun a b e => by
    have := congrArg Prod.swap e
    simpa using this
  refine ⟨by rw [List.length_map]; exact h1, ?_, ?_, fun p hp => ?_, fun p hp j hj => ?_⟩
  · exact List.Pairwise.map _ (fun a b (hab : a ≠ b) e => hab (inj e)) h2
  · exact List.mem_map.mpr ⟨_, h3, rfl⟩
  · obtain ⟨q, hq, rfl⟩ := List.mem_map.mp hp
    exact ⟨(h4 q hq).2, (h4 q hq).1⟩
  · obtain ⟨q, hq, rfl⟩ := List.mem_map.mp hp
    rw [ok_swap, nx_swap]
    exact ⟨(h5 q hq j hj).1, List.mem_map.mpr ⟨_, (h5 q hq j hj).2, rfl⟩⟩
theorem same_good {ages : Bool} {c1 c2 : Chain} {n : Nat} {R : List (Row × Row)} (h : IsV ages c1 c2 n (.same R)) (w : List Nat) (hw : Kb.dig (n + 2) w) : ¬ Kb.Bad (p0 c1 c2) (nxN c1 c2 n) (okN ages c1 c2 n) w :=
  Kb.closed_good (S := fun p => p ∈ R) h.2.2.1 (fun p hp e he => h.2.2.2.2 p hp e he) w hw
/-- the verdict is determined -/
theorem isV_det {ages : Bool} {c1 c2 : Chain} {n : Nat} {V V' : Verd} (h : IsV ages c1 c2 n V) (h' : IsV ages c1 c2 n V') : likeV V V' := by
  cases V with
  | same R => cases V' with
    | same S => trivial
    | parted u => exact (same_good h u h'.2.1 h'.2.2.1).elim
  | parted w => cases V' with
    | same S => exact (same_good h' w h.2.1 h.2.2.1).elim
    | parted u => exact Kb.val_inj h.2.1 h'.2.1 (Nat.le_antisymm (h.2.2.2 u h'.2.1 h'.2.2.1) (h'.2.2.2 w h.2.1 h.2.2.1))
theorem isV_like {ages : Bool} {c1 c2 : Chain} {n : Nat} {V V' : Verd} (h : IsV ages c1 c2 n V) (h' : IsV ages c2 c1 n V') : likeV V V' := by
  cases V' with
  | same S => 
    have := isV_det h (isV_swap h')
    cases V with
    | same R => trivial
    | parted w => exact this
  | parted u =>
    have h2 : IsV ages c1 c2 n (.parted u) := ⟨h'.1, h'.2.1, bad_swap h'.2.2.1, fun v hv hb => h'.2.2.2 v hv (bad_swap hb)⟩
    exact isV_det h h2
end K98
set_option Elab.async false
set_option linter.all false
namespace K98
open PySem PySem.Spec PyProof.Rows L2 Ru He6 TL
def Sm (r : Int → Int) (S : List Int) : Prop := ∀ x ∈ S, ∀ y ∈ S, x < y → r x < r y
theorem Sm.inj {r : Int → Int} {S : List Int} (h : Sm r S) {x y : Int} (hx : x ∈ S) (hy : y ∈ S) (e : r x = r y) : x = y := by
  rcases Int.lt_trichotomy x y with q | q | q
  · have := h x hx y hy q; omega
  · exact q
  · have := h y hy x hx q; omega
theorem Sm.sub {r : Int → Int} {S T : List Int} (h : Sm r S) (s : ∀ x ∈ T, x ∈ S) : Sm r T := fun x hx y hy q => h x (s x hx) y (s y hy) q
theorem rank_lt {ns : List Int} {x y : Int} (hx : x ∈ ns) (h : x < y) : rank ns x < rank ns y := by
  unfold rank
  have h1 : (ddp ns).filter (fun z => decide (z < x)) = ((ddp ns).filter fun z => decide (z < y)).filter fun z => decide (z < x) := by
    rw [List.filter_filter]
    refine List.filter_congr fun z _ => ?_
    by_cases q : z < x
    · simp [q, Int.lt_trans q h]
    · simp [q]
  have hm : x ∈ (ddp ns).filter fun z => decide (z < y) := List.mem_filter.mpr ⟨mem_ddp.mpr hx, by simpa using h⟩
  have h2 : (((ddp ns).filter fun z => decide (z < y)).filter fun z => decide (z < x)).length < ((ddp ns).filter fun z => decide (z < y)).length := by
    refine Nat.lt_of_le_of_ne (List.length_filter_le _ _) fun e => ?_
    have := List.length_filter_eq_length_iff.mp e x hm
    simp at this
  rw [h1]
  omega
theorem rank_zero {ns : List Int} (h : ∀ x ∈ ns, 0 ≤ x) : rank ns 0 = 0 := by
  unfold rank
  rw [List.filter_eq_nil_iff.mpr fun z hz => by have := h z (mem_ddp.mp hz); simp; omega]
  rfl
theorem askS_ren {r : Int → Int} (h0 : r 0 = 0) : ∀ (c : Chain) (st : Row), askS c (st.map (rkE r)) = ⟨(askS c st).row.map (rkE r), r (askS c st).b, (askS c st).s, (askS c st).told⟩
  | h :: c, some (b, a, s) :: st => rfl
  | h :: c, none :: st => by
    show askS (h :: c) (none :: st.map (rkE r)) = _
    simp only [askS]
    rw [askS_ren h0 c st]
    simp only [List.map_cons]
    split <;> rfl
  | [], [] => by simp [askS, h0]
  | [], _ :: _ => by simp [askS, h0]
  | _ :: _, [] => by simp [askS, h0]
theorem asked_ren {r : Int → Int} (h0 : r 0 = 0) (c : Chain) (st : Row) (h : Nat) : asked c (st.map (rkE r)) h = ⟨(asked c st h).row.map (rkE r), r (asked c st h).b, (asked c st h).s, (asked c st h).told⟩ := by
  unfold asked
  rw [← List.map_drop, askS_ren h0]
  simp [List.map_append, List.map_take]
theorem wait_ren {r : Int → Int} : ∀ (c : Chain) (st : Row) (t : Int), waitRow c (st.map (rkE r)) t = (waitRow c st t).map (rkE r)
  | [], [], _ => rfl
  | [], _ :: _, _ => rfl
  | _ :: _, [], _ => rfl
  | h :: c, e :: st, t => by
    have ih := wait_ren (r := r) c st t
    unfold waitRow at ih ⊢
    simp only [List.map_cons, List.zipWith_cons_cons, ih]
    congr 1
    cases e with
    | none => rfl
    | some z =>
      show waited (some (r z.1, z.2.1, z.2.2)) h.lim t = _
      simp only [waited]
      split <;> rfl
def upR (r : Int → Int) (x : Int) : Int := if x ≤ 0 then x else r (x - 1) + 1
theorem up_ren {r : Int → Int} {st : Row} (hp : ∀ x ∈ nums st, 0 ≤ x) : (st.map (rkE r)).map upE = (st.map upE).map (rkE (upR r)) := by
  rw [List.map_map, List.map_map]
  refine List.map_congr_left fun e he => ?_
  cases e with
  | none => rfl
  | some z =>
    have h := hp z.1 (List.mem_filterMap.mpr ⟨some z, he, rfl⟩)
    show some (r z.1 + 1, z.2.1, z.2.2) = some (upR r (z.1 + 1), z.2.1, z.2.2)
    unfold upR
    rw [if_neg (by omega), show z.1 + 1 - 1 = z.1 by omega]
end K98
set_option Elab.async false
set_option linter.all false
namespace K98
open PySem PySem.Spec PyProof.Rows L2 Ru He6 TL
def allN (p : Row × Row) : List Int := 0 :: nums (p.1 ++ p.2)
/-- the raw rows q stand behind the ranked rows p -/
def Rel (q p : Row × Row) : Prop := ∃ r : Int → Int, (∀ x ∈ allN q, 0 ≤ x) ∧ Sm r (allN q) ∧ r 0 = 0 ∧ p = (q.1.map (rkE r), q.2.map (rkE r))
def stepR (c1 c2 : Chain) (q : Row × Row) (e : Ev) : Row × Row := ((step c1 q.1 e).1, (step c2 q.2 e).1)
theorem mem_nums {st : Row} {x : Int} : x ∈ nums st ↔ ∃ a s, some (x, a, s) ∈ st := by
  unfold nums
  rw [List.mem_filterMap]
  constructor
  · rintro ⟨e, he, h⟩
    cases e with
    | none => cases h
    | some z =>
      obtain ⟨b, a, s⟩ := z
      simp at h
      subst h
      exact ⟨a, s, he⟩
  · rintro ⟨a, s, h⟩
    exact ⟨_, h, rfl⟩
theorem askS_nums : ∀ (c : Chain) (st : Row), ((askS c st).b = 0 ∨ (askS c st).b ∈ nums st) ∧ ∀ x ∈ nums (askS c st).row, x = 0 ∨ x ∈ nums st
  | h :: c, some (b, a, s) :: st => ⟨.inr (by show b ∈ nums _; rw [mem_nums]; exact ⟨a, s, List.mem_cons_self ..⟩), fun x hx => .inr hx⟩
  | h :: c, none :: st => by
    obtain ⟨h1, h2⟩ := askS_nums c st
    refine ⟨h1, fun x hx => ?_⟩
    rw [mem_nums] at hx
    obtain ⟨a, s, hx⟩ := hx
    simp only [askS] at hx
    rcases List.mem_cons.mp hx with q | q
    · split at q
      · cases q; exact h1
      · cases q
    · exact h2 x (mem_nums.mpr ⟨a, s, q⟩)
  | [], st => ⟨.inl (by simp [askS]), fun x hx => .inr (by simpa [askS] using hx)⟩
  | _ :: _, [] => ⟨.inl (by simp [askS]), fun x hx => .inr (by simpa [askS] using hx)⟩
theorem asked_nums {c : Chain} {st : Row} {h : Nat} : ((asked c st h).b = 0 ∨ (asked c st h).b ∈ nums st) ∧ ∀ x ∈ nums (asked c st h).row, x = 0 ∨ x ∈ nums st := by
  obtain ⟨h1, h2⟩ := askS_nums (c.drop (h - 1)) (st.drop (h - 1))
  have hd : ∀ x, x ∈ nums (st.drop (h - 1)) → x ∈ nums st := fun x hx => by
    obtain ⟨a, s, q⟩ := mem_nums.mp hx
    exact mem_nums.mpr ⟨a, s, List.mem_of_mem_drop q⟩
  refine ⟨h1.imp id (hd _), fun x hx => ?_⟩
  obtain ⟨a, s, q⟩ := mem_nums.mp hx
  rcases List.mem_append.mp q with z | z
  · exact .inr (mem_nums.mpr ⟨a, s, List.mem_of_mem_take z⟩)
  · exact (h2 x (mem_nums.mpr ⟨a, s, z⟩)).imp id (hd _)
theorem wait_nums {c : Chain} {st : Row} {t : Int} : ∀ x ∈ nums (waitRow c st t), x ∈ nums st := fun x hx => by
  obtain ⟨a, s, q⟩ := mem_nums.mp hx
  unfold waitRow at q
  rw [List.mem_iff_getElem?] at q
  obtain ⟨i, hi⟩ := q
  rw [List.getElem?_zipWith] at hi
  cases h1 : st[i]? with
  | none => simp [h1] at hi
  | some e => cases h2 : c[i]? with
    | none => simp [h1, h2] at hi
    | some h =>
      simp [h1, h2] at hi
      cases e with
      | none => simp [waited] at hi
      | some z =>
        simp only [waited] at hi
        split at hi
        · cases hi
        · cases hi
          exact mem_nums.mpr ⟨_, _, List.mem_of_getElem? h1⟩
theorem allN_of {q q' : Row × Row} (h1 : ∀ x ∈ nums q'.1, x = 0 ∨ x ∈ nums q.1) (h2 : ∀ x ∈ nums q'.2, x = 0 ∨ x ∈ nums q.2) : ∀ x ∈ allN q', x ∈ allN q := fun x hx => by
  unfold allN at hx ⊢
  rcases List.mem_cons.mp hx with z | z
  · rw [z]; exact List.mem_cons_self ..
  · unfold nums at z h1 h2
    rw [List.filterMap_append, List.mem_append] at z
    unfold nums
    rw [List.filterMap_append, List.mem_cons, List.mem_append]
    rcases z with z | z
    · rcases h1 x z with y | y
      · exact .inl y
      · exact .inr (.inl y)
    · rcases h2 x z with y | y
      · exact .inl y
      · exact .inr (.inr y)
theorem up_nums {st : Row} {x : Int} (h : x ∈ nums (st.map upE)) : x - 1 ∈ nums st := by
  obtain ⟨a, s, q⟩ := mem_nums.mp h
  obtain ⟨e, he, z⟩ := List.mem_map.mp q
  cases e with
  | none => cases z
  | some y =>
    obtain ⟨b', a', s'⟩ := y
    cases z
    exact mem_nums.mpr ⟨a', s', by show some (b' + 1 - 1, a', s') ∈ st; rw [Int.add_sub_cancel]; exact he⟩
/-- one event, before the numbers are ranked anew -/
theorem step_rel {c1 c2 : Chain} {q : Row × Row} {r : Int → Int} (e : Ev) (h1 : ∀ x ∈ allN q, 0 ≤ x) (h2 : Sm r (allN q)) (h3 : r 0 = 0) :
    ∃ r' : Int → Int, (∀ x ∈ allN (stepR c1 c2 q e), 0 ≤ x) ∧ Sm r' (allN (stepR c1 c2 q e)) ∧ r' 0 = 0 ∧ (step c1 (q.1.map (rkE r)) e).1 = (stepR c1 c2 q e).1.map (rkE r') ∧ (step c2 (q.2.map (rkE r)) e).1 = (stepR c1 c2 q e).2.map (rkE r') := by
  cases e with
  | wait =>
    have hs := allN_of (q := q) (q' := stepR c1 c2 q .wait) (fun x hx => .inr (wait_nums x hx)) (fun x hx => .inr (wait_nums x hx))
    exact ⟨r, fun x hx => h1 x (hs x hx), h2.sub hs, h3, wait_ren _ _ _, wait_ren _ _ _⟩
  | ask h =>
    have hs := allN_of (q := q) (q' := stepR c1 c2 q (.ask h)) (fun x hx => asked_nums.2 x hx) (fun x hx => asked_nums.2 x hx)
    refine ⟨r, fun x hx => h1 x (hs x hx), h2.sub hs, h3, ?_, ?_⟩
    · show (asked c1 _ h).row = _
      rw [asked_ren h3]; rfl
    · show (asked c2 _ h).row = _
      rw [asked_ren h3]; rfl
  | change =>
    have a1 : ∀ x ∈ nums q.1, x ∈ allN q := fun x hx => by
      unfold allN; unfold nums at hx ⊢; rw [List.filterMap_append]; simp [hx]
    have a2 : ∀ x ∈ nums q.2, x ∈ allN q := fun x hx => by
      unfold allN; unfold nums at hx ⊢; rw [List.filterMap_append]; simp [hx]
    have hin : ∀ x ∈ allN (stepR c1 c2 q .change), x = 0 ∨ x - 1 ∈ allN q := fun x hx => by
      unfold allN at hx
      rcases List.mem_cons.mp hx with z | z
      · exact .inl z
      · unfold nums at z
        rw [List.filterMap_append, List.mem_append] at z
        rcases z with z | z
        · exact .inr (a1 _ (up_nums z))
        · exact .inr (a2 _ (up_nums z))
    have z0 : (0 : Int) ∈ allN q := List.mem_cons_self ..
    have rp : ∀ x ∈ allN q, 0 ≤ r x := fun x hx => by
      have := h1 x hx
      by_cases y : x = 0
      · rw [y, h3]; omega
      · have := h2 0 z0 x hx (by omega); omega
    refine ⟨upR r, fun x hx => ?_, fun x hx y hy hxy => ?_, by simp [upR], up_ren fun x hx => h1 x (a1 x hx), up_ren fun x hx => h1 x (a2 x hx)⟩
    · rcases hin x hx with z | z
      · omega
      · have := h1 _ z; omega
    · unfold upR
      rcases hin y hy with z | z
      · rcases hin x hx with z' | z'
        · omega
        · have := h1 _ z'; omega
      · have hy1 := h1 _ z
        have hy2 := rp _ z
        rw [if_neg (show ¬ y ≤ 0 by omega)]
        rcases hin x hx with z' | z'
        · rw [if_pos (by omega)]; omega
        · have := h1 _ z'
          rw [if_neg (show ¬ x ≤ 0 by omega)]
          have := h2 _ z' _ z (by omega)
          omega
theorem nums_map {r : Int → Int} : ∀ (st : Row), nums (st.map (rkE r)) = (nums st).map r
  | [] => rfl
  | none :: st => nums_map st
  | some z :: st => congrArg (List.cons (r z.1)) (nums_map st)
theorem rkE_comp (r r' : Int → Int) (st : Row) : (st.map (rkE r)).map (rkE r') = st.map (rkE fun x => r' (r x)) := by
  rw [List.map_map]
  refine List.map_congr_left fun e _ => ?_
  cases e <;> rfl
theorem joined_rel {q : Row × Row} {r : Int → Int} (h1 : ∀ x ∈ allN q, 0 ≤ x) (h2 : Sm r (allN q)) (h3 : r 0 = 0) : Rel q (joined (q.1.map (rkE r)) (q.2.map (rkE r))) := by
  have e1 : 0 :: nums (q.1.map (rkE r) ++ q.2.map (rkE r)) = (allN q).map r := by
    rw [← List.map_append, nums_map]
    show _ = r 0 :: _
    rw [h3]
  have z0 : (0 : Int) ∈ allN q := List.mem_cons_self ..
  refine ⟨fun x => rank ((allN q).map r) (r x), h1, fun x hx y hy hxy => rank_lt (List.mem_map.mpr ⟨x, hx, rfl⟩) (h2 x hx y hy hxy), ?_, ?_⟩
  · show rank _ (r 0) = 0
    rw [h3]
    refine rank_zero fun x hx => ?_
    obtain ⟨y, hy, rfl⟩ := List.mem_map.mp hx
    have := h1 y hy
    by_cases c : y = 0
    · rw [c, h3]; omega
    · have := h2 0 z0 y hy (by omega); omega
  · unfold joined
    rw [e1]
    simp only [rkE_comp]
theorem rel_step {c1 c2 : Chain} {q p : Row × Row} (e : Ev) (h : Rel q p) : Rel (stepR c1 c2 q e) (stepB c1 c2 p e) := by
  obtain ⟨r, h1, h2, h3, rfl⟩ := h
  obtain ⟨r', g1, g2, g3, g4, g5⟩ := step_rel (c1 := c1) (c2 := c2) e h1 h2 h3
  unfold stepB
  rw [g4, g5]
  exact joined_rel g1 g2 g3
end K98
set_option Elab.async false
set_option linter.all false
namespace K98
open PySem PySem.Spec PyProof.Rows L2 Ru He6 TL
/-! raw runs against ranked states; what the verdicts say of each other -/
/-- the row behind a reversed word, its numbers not ranked -/
def raw (c : Chain) (n : Nat) : List Nat → Row
  | [] => List.replicate c.length none
  | e :: u => (step c (raw c n u) (evN n e)).1
def tw (ages : Bool) (c : Chain) (n : Nat) (u : List Nat) (e : Nat) : List TP := tellOf ages (step c (raw c n u) (evN n e)).2
/-- all letters are told alike -/
def AW (ages : Bool) (c1 c2 : Chain) (n : Nat) : List Nat → Prop
  | [] => True
  | e :: u => AW ages c1 c2 n u ∧ tw ages c1 n u e = tw ages c2 n u e
theorem alike_iff (ages : Bool) (t u : Tell) : alike ages t u = true ↔ tellOf ages t = tellOf ages u := by
  cases t with
  | none => cases u with
    | none => simp [alike, tellOf]
    | some u => simp [alike, tellOf]
  | some t => cases u with
    | none => simp [alike, tellOf]
    | some u => cases ages <;> simp [alike, tellOf, Prod.ext_iff]
theorem allN_mem {q : Row × Row} {x : Int} : x ∈ allN q ↔ x = 0 ∨ x ∈ nums q.1 ∨ x ∈ nums q.2 := by
  unfold allN nums
  rw [List.filterMap_append, List.mem_cons, List.mem_append]
theorem alike_rel {ages : Bool} {c1 c2 : Chain} {q p : Row × Row} (e : Ev) (h : Rel q p) : alikeB ages c1 c2 p e = alike ages (step c1 q.1 e).2 (step c2 q.2 e).2 := by
  obtain ⟨r, h1, h2, h3, rfl⟩ := h
  cases e with
  | wait => rfl
  | change => rfl
  | ask h =>
    show alike ages (some ((asked c1 (q.1.map (rkE r)) h).b, (asked c1 (q.1.map (rkE r)) h).told)) (some ((asked c2 (q.2.map (rkE r)) h).b, (asked c2 (q.2.map (rkE r)) h).told)) = _
    rw [asked_ren h3, asked_ren h3]
    show (r (asked c1 q.1 h).b == r (asked c2 q.2 h).b && _) = ((asked c1 q.1 h).b == (asked c2 q.2 h).b && _)
    have m1 : (asked c1 q.1 h).b ∈ allN q := allN_mem.mpr ((asked_nums (c := c1) (st := q.1) (h := h)).1.imp id .inl)
    have m2 : (asked c2 q.2 h).b ∈ allN q := allN_mem.mpr ((asked_nums (c := c2) (st := q.2) (h := h)).1.imp id .inr)
    congr 1
    rw [Bool.eq_iff_iff, beq_iff_eq, beq_iff_eq]
    exact ⟨h2.inj m1 m2, fun z => by rw [z]⟩
theorem nums_rep (k : Nat) : nums (List.replicate k none) = [] := by
  unfold nums
  rw [List.filterMap_eq_nil_iff]
  intro a ha
  rw [List.eq_of_mem_replicate ha]
  rfl
theorem rel_start (c1 c2 : Chain) : Rel (p0 c1 c2) (p0 c1 c2) := by
  have e0 : ∀ x, x ∈ allN (p0 c1 c2) → x = 0 := fun x hx => by
    rcases allN_mem.mp hx with z | z | z
    · exact z
    · rw [show nums (p0 c1 c2).1 = [] from nums_rep _] at z; cases z
    · rw [show nums (p0 c1 c2).2 = [] from nums_rep _] at z; cases z
  refine ⟨id, fun x hx => by rw [e0 x hx]; omega, fun x hx y hy h => h, rfl, ?_⟩
  have : ∀ st : Row, st.map (rkE id) = st := fun st => by
    conv => rhs; rw [← List.map_id st]
    refine List.map_congr_left fun e _ => ?_
    cases e <;> rfl
  rw [this, this]
section
variable {ages : Bool} {c1 c2 : Chain} {n : Nat}
theorem run_raw : ∀ w, AW ages c1 c2 n w → ∃ p, Kb.run (p0 c1 c2) (nxN c1 c2 n) (okN ages c1 c2 n) w = some p ∧ Rel (raw c1 n w, raw c2 n w) p
  | [], _ => ⟨_, rfl, rel_start c1 c2⟩
  | e :: u, h => by
    obtain ⟨p, h1, h2⟩ := run_raw u h.1
    have ho : okN ages c1 c2 n p e = true := (alike_rel _ h2).trans ((alike_iff ..).mpr h.2)
    refine ⟨nxN c1 c2 n p e, ?_, rel_step (evN n e) h2⟩
    simp only [Kb.run, h1, ho, if_true]
theorem raw_run : ∀ w p, Kb.run (p0 c1 c2) (nxN c1 c2 n) (okN ages c1 c2 n) w = some p → AW ages c1 c2 n w ∧ Rel (raw c1 n w, raw c2 n w) p
  | [], p, h => by
    have e : p0 c1 c2 = p := Option.some.inj h
    subst e
    exact ⟨trivial, rel_start c1 c2⟩
  | e :: u, p, h => by
    have h1 := h
    simp only [Kb.run] at h1
    cases hr : Kb.run (p0 c1 c2) (nxN c1 c2 n) (okN ages c1 c2 n) u with
    | none => rw [hr] at h1; cases h1
    | some q =>
      rw [hr] at h1
      obtain ⟨g1, g2⟩ := raw_run u q hr
      have h2 : (if okN ages c1 c2 n q e = true then some (nxN c1 c2 n q e) else none) = some p := h1
      by_cases ho : okN ages c1 c2 n q e = true
      · rw [if_pos ho] at h2
        have e1 := Option.some.inj h2
        subst e1
        exact ⟨⟨g1, (alike_iff ..).mp ((alike_rel _ g2).symm.trans ho)⟩, rel_step (evN n e) g2⟩
      · rw [if_neg ho] at h2; cases h2
theorem bad_iff {w : List Nat} : Kb.Bad (p0 c1 c2) (nxN c1 c2 n) (okN ages c1 c2 n) w ↔ ∃ e u, w = e :: u ∧ AW ages c1 c2 n u ∧ tw ages c1 n u e ≠ tw ages c2 n u e := by
  constructor
  · rintro ⟨e, u, p, rfl, h1, h2⟩
    obtain ⟨g1, g2⟩ := raw_run u p h1
    refine ⟨e, u, rfl, g1, fun z => ?_⟩
    have : okN ages c1 c2 n p e = true := (alike_rel _ g2).trans ((alike_iff ..).mpr z)
    rw [h2] at this; cases this
  · rintro ⟨e, u, rfl, g1, g2⟩
    obtain ⟨p, h1, h2⟩ := run_raw u g1
    refine ⟨e, u, p, rfl, h1, ?_⟩
    cases ho : okN ages c1 c2 n p e with
    | false => rfl
    | true => exact absurd ((alike_iff ..).mp ((alike_rel _ h2).symm.trans ho)) g2
theorem aw_or : ∀ w, AW ages c1 c2 n w ∨ ∃ e u, (e :: u) <:+ w ∧ AW ages c1 c2 n u ∧ tw ages c1 n u e ≠ tw ages c2 n u e
  | [] => .inl trivial
  | e :: u => by
    rcases aw_or u with h | ⟨d, v, h1, h2⟩
    · by_cases q : tw ages c1 n u e = tw ages c2 n u e
      · exact .inl ⟨h, q⟩
      · exact .inr ⟨e, u, List.suffix_refl _, h, q⟩
    · exact .inr ⟨d, v, h1.trans (List.suffix_cons ..), h2⟩
theorem dig_suffix {m : Nat} {u w : List Nat} (h : u <:+ w) (hw : Kb.dig m w) : Kb.dig m u := fun d hd => hw d (h.subset hd)
theorem val_suffix {m : Nat} (hm : 0 < m) : ∀ {u w : List Nat}, u <:+ w → Kb.val m u ≤ Kb.val m w
  | u, [], h => by rw [List.suffix_nil.mp h]; exact Nat.le_refl _
  | u, e :: w, h => by
    rcases List.suffix_cons_iff.mp h with h | h
    · rw [h]; exact Nat.le_refl _
    · have h1 := val_suffix hm h
      have h2 : Kb.val m w * 1 ≤ Kb.val m w * m := Nat.mul_le_mul_left _ hm
      show Kb.val m u ≤ Kb.val m w * m + e + 1
      omega
theorem val_len {m : Nat} : ∀ {u v : List Nat}, Kb.dig m u → u.length < v.length → Kb.val m u < Kb.val m v
  | [], [], _, h => by simp at h
  | [], e :: v, _, _ => Nat.succ_pos _
  | d :: u, [], _, h => by simp at h
  | d :: u, e :: v, hd, h => by
    obtain ⟨h1, h2⟩ := Kb.dig_cons hd
    have := val_len (v := v) h2 (Nat.lt_of_succ_lt_succ h)
    exact Kb.val_lt this h1
/-- over a pair that is the same all words are told alike -/
theorem same_aw {R : List (Row × Row)} (h : IsV ages c1 c2 n (.same R)) (w : List Nat) (hw : Kb.dig (n + 2) w) : AW ages c1 c2 n w := by
  obtain ⟨p, h1, _⟩ := Kb.closed_run (m := n + 2) (S := fun p => p ∈ R) h.2.2.1 (fun p hp e he => h.2.2.2.2 p hp e he) w hw
  exact (raw_run w p h1).1
end
theorem evN_pre {n m j : Nat} (h : n ≤ m) (hj : j < n + 2) : evN n j = evN m j := by
  have h1 := evs_get hj
  have h2 := evs_get (n := m) (j := j) (by omega)
  have e : (evs m)[j]? = (evs n)[j]? := by
    unfold evs
    by_cases c : j < 2
    · rw [List.getElem?_append_left (by exact c), List.getElem?_append_left (by exact c)]
    · rw [List.getElem?_append_right (by simp; omega), List.getElem?_append_right (by simp; omega)]
      simp only [List.length_cons, List.length_nil, List.getElem?_map]
      rw [List.getElem?_range (by omega), List.getElem?_range (by omega)]
  rw [h1, h2] at e
  exact (Option.some.inj e).symm
theorem raw_pre {c : Chain} {n m : Nat} (h : n ≤ m) : ∀ {w : List Nat}, Kb.dig (n + 2) w → raw c n w = raw c m w
  | [], _ => rfl
  | e :: u, hw => by
    obtain ⟨h1, h2⟩ := Kb.dig_cons hw
    show (step c (raw c n u) (evN n e)).1 = (step c (raw c m u) (evN m e)).1
    rw [raw_pre h h2, evN_pre h h1]
theorem tw_pre {ages : Bool} {c : Chain} {n m e : Nat} {u : List Nat} (h : n ≤ m) (he : e < n + 2) (hu : Kb.dig (n + 2) u) : tw ages c n u e = tw ages c m u e := by
  unfold tw
  rw [raw_pre h hu, evN_pre h he]
theorem dig_up {n m : Nat} {w : List Nat} (h : n ≤ m) (hw : Kb.dig (n + 2) w) : Kb.dig (m + 2) w := fun d hd => Nat.lt_of_lt_of_le (hw d hd) (by omega)
/-- a pair that is the same: tellings are equal, for fewer hops too -/
theorem same_tw {ages : Bool} {c1 c2 : Chain} {n m e : Nat} {u : List Nat} {R : List (Row × Row)} (h : IsV ages c1 c2 m (.same R)) (hn : n ≤ m) (he : e < n + 2) (hu : Kb.dig (n + 2) u) : tw ages c1 n u e = tw ages c2 n u e := by
  rw [tw_pre hn he hu, tw_pre hn he hu]
  exact (same_aw h (e :: u) (Kb.dig_mk (by omega) (dig_up hn hu))).2
theorem aw_congr {ages : Bool} {c1 c2 d1 d2 : Chain} {n : Nat} (h1 : ∀ u e, e < n + 2 → Kb.dig (n + 2) u → tw ages c1 n u e = tw ages d1 n u e) (h2 : ∀ u e, e < n + 2 → Kb.dig (n + 2) u → tw ages c2 n u e = tw ages d2 n u e) : ∀ w, Kb.dig (n + 2) w → (AW ages c1 c2 n w ↔ AW ages d1 d2 n w)
  | [], _ => Iff.rfl
  | e :: u, hw => by
    obtain ⟨g1, g2⟩ := Kb.dig_cons hw
    show (_ ∧ _) ↔ (_ ∧ _)
    rw [aw_congr h1 h2 u g2, h1 u e g1 g2, h2 u e g1 g2]
theorem bad_congr {ages : Bool} {c1 c2 d1 d2 : Chain} {n : Nat} (h1 : ∀ u e, e < n + 2 → Kb.dig (n + 2) u → tw ages c1 n u e = tw ages d1 n u e) (h2 : ∀ u e, e < n + 2 → Kb.dig (n + 2) u → tw ages c2 n u e = tw ages d2 n u e) {w : List Nat} (hw : Kb.dig (n + 2) w)
    (hb : Kb.Bad (p0 c1 c2) (nxN c1 c2 n) (okN ages c1 c2 n) w) : Kb.Bad (p0 d1 d2) (nxN d1 d2 n) (okN ages d1 d2 n) w := by
  obtain ⟨e, u, rfl, g1, g2⟩ := bad_iff.mp hb
  obtain ⟨k1, k2⟩ := Kb.dig_cons hw
  refine bad_iff.mpr ⟨e, u, rfl, (aw_congr h1 h2 u k2).mp g1, ?_⟩
  rw [← h1 u e k1 k2, ← h2 u e k1 k2]
  exact g2
theorem like_congr {ages : Bool} {c1 c2 d1 d2 : Chain} {n : Nat} {V V' : Verd} (h1 : ∀ u e, e < n + 2 → Kb.dig (n + 2) u → tw ages c1 n u e = tw ages d1 n u e) (h2 : ∀ u e, e < n + 2 → Kb.dig (n + 2) u → tw ages c2 n u e = tw ages d2 n u e)
    (h : IsV ages c1 c2 n V) (h' : IsV ages d1 d2 n V') : likeV V V' := by
  have b1 := fun {w : List Nat} (hw : Kb.dig (n + 2) w) hb => bad_congr h1 h2 hw hb
  have b2 := fun {w : List Nat} (hw : Kb.dig (n + 2) w) hb => bad_congr (fun u e a b => (h1 u e a b).symm) (fun u e a b => (h2 u e a b).symm) hw hb
  cases V with
  | same R => cases V' with
    | same S => trivial
    | parted u => exact (same_good h u h'.2.1 (b2 h'.2.1 h'.2.2.1)).elim
  | parted w => cases V' with
    | same S => exact (same_good h' w h.2.1 (b1 h.2.1 h.2.2.1)).elim
    | parted u => exact Kb.val_inj h.2.1 h'.2.1 (Nat.le_antisymm (h.2.2.2 u h'.2.1 (b2 h'.2.1 h'.2.2.1)) (h'.2.2.2 w h.2.1 (b1 h.2.1 h.2.2.1)))
/-- the first two claims of _law_through -/
theorem thr_near {ages : Bool} {c0 c1 c2 : Chain} {n m : Nat} {R : List (Row × Row)} {V V' : Verd} (h : IsV ages c0 c1 m (.same R)) (hn : n ≤ m) (h1 : IsV ages c1 c2 n V) (h2 : IsV ages c0 c2 n V') : likeV V V' :=
  like_congr (fun u e a b => (same_tw h hn a b).symm) (fun _ _ _ _ => rfl) h1 h2
theorem thr_far {ages : Bool} {c0 c1 c2 : Chain} {n m : Nat} {R : List (Row × Row)} {V V' : Verd} (h : IsV ages c1 c2 m (.same R)) (hn : n ≤ m) (h1 : IsV ages c0 c1 n V) (h2 : IsV ages c0 c2 n V') : likeV V V' :=
  like_congr (fun _ _ _ _ => rfl) (fun u e a b => same_tw h hn a b) h1 h2
/-- the third -/
theorem thr_same {ages : Bool} {c0 c1 c2 : Chain} {n m m' : Nat} {R S : List (Row × Row)} {V : Verd} (h : IsV ages c0 c1 m (.same R)) (h' : IsV ages c1 c2 m' (.same S)) (hn : n ≤ m) (hn' : n ≤ m') (h2 : IsV ages c0 c2 n V) : ∃ T, V = .same T := by
  cases V with
  | same T => exact ⟨T, rfl⟩
  | parted w =>
    obtain ⟨e, u, rfl, g1, g2⟩ := bad_iff.mp h2.2.2.1
    obtain ⟨k1, k2⟩ := Kb.dig_cons h2.2.1
    exact absurd ((same_tw h hn k1 k2).trans (same_tw h' hn' k1 k2)) g2
/-- equal chains are the same -/
theorem self_same {ages : Bool} {c : Chain} {n : Nat} {V : Verd} (h : IsV ages c c n V) : ∃ T, V = .same T := by
  cases V with
  | same T => exact ⟨T, rfl⟩
  | parted w =>
    obtain ⟨e, u, rfl, g1, g2⟩ := bad_iff.mp h.2.2.1
    exact absurd rfl g2
theorem tw_weak {c1 c2 : Chain} {n e : Nat} {u : List Nat} (h : tw true c1 n u e = tw true c2 n u e) : tw false c1 n u e = tw false c2 n u e := by
  unfold tw at h ⊢
  cases h1 : (step c1 (raw c1 n u) (evN n e)).2 with
  | none => cases h2 : (step c2 (raw c2 n u) (evN n e)).2 with
    | none => rfl
    | some y => rw [h1, h2] at h; simp [tellOf] at h
  | some x => cases h2 : (step c2 (raw c2 n u) (evN n e)).2 with
    | none => rw [h1, h2] at h; simp [tellOf] at h
    | some y =>
      rw [h1, h2] at h
      have : x = y := by simpa [tellOf] using h
      rw [this]
theorem aw_weak {c1 c2 : Chain} {n : Nat} : ∀ {w : List Nat}, AW true c1 c2 n w → AW false c1 c2 n w
  | [], _ => trivial
  | e :: u, h => ⟨aw_weak h.1, tw_weak h.2⟩
/-- without ages parted: with ages, too, by no longer word -/
theorem bare_full {c1 c2 : Chain} {n : Nat} {w : List Nat} {V : Verd} (h : IsV false c1 c2 n (.parted w)) (h' : IsV true c1 c2 n V) : ∃ u, V = .parted u ∧ u.length ≤ w.length := by
  have hb : ∃ e u, (e :: u) <:+ w ∧ AW true c1 c2 n u ∧ tw true c1 n u e ≠ tw true c2 n u e := by
    rcases aw_or (ages := true) (c1 := c1) (c2 := c2) (n := n) w with a | a
    · obtain ⟨e, u, rfl, g1, g2⟩ := bad_iff.mp h.2.2.1
      exact absurd (tw_weak a.2) g2
    · exact a
  obtain ⟨e, u, s, g1, g2⟩ := hb
  have hd := dig_suffix s h.2.1
  have hB : Kb.Bad (p0 c1 c2) (nxN c1 c2 n) (okN true c1 c2 n) (e :: u) := bad_iff.mpr ⟨e, u, rfl, g1, g2⟩
  cases V with
  | same R => exact (same_good h' _ hd hB).elim
  | parted x =>
    refine ⟨x, rfl, ?_⟩
    have h1 := h'.2.2.2 _ hd hB
    have h2 := val_suffix (m := n + 2) (by omega) s
    rcases Nat.lt_or_ge w.length x.length with q | q
    · have := val_len h.2.1 q
      omega
    · exact q
/-! the tellings of the story -/
theorem word_snoc {n e : Nat} {u : List Nat} (he : e < n + 2) : wordEv (evs n) (e :: u).reverse = wordEv (evs n) u.reverse ++ [evN n e] := by
  rw [List.reverse_cons]
  simp [wordEv, List.filterMap_append, evs_get he]
theorem raw_runRow {c : Chain} {n : Nat} : ∀ {w : List Nat}, Kb.dig (n + 2) w → raw c n w = runRow c (List.replicate c.length none) (wordEv (evs n) w.reverse)
  | [], _ => rfl
  | e :: u, hw => by
    obtain ⟨h1, h2⟩ := Kb.dig_cons hw
    rw [word_snoc h1, runRow_snoc, ← raw_runRow h2]
    rfl
theorem tells_word {ages : Bool} {c : Chain} {n e : Nat} {u : List Nat} (h : Kb.dig (n + 2) (e :: u)) : tells c ages (List.replicate c.length none) (wordEv (evs n) (e :: u).reverse) = tells c ages (List.replicate c.length none) (wordEv (evs n) u.reverse) ++ tw ages c n u e := by
  obtain ⟨h1, h2⟩ := Kb.dig_cons h
  rw [word_snoc h1, tells_snoc, ← raw_runRow h2]
  show _ ++ (tellOf ages _ ++ []) = _
  rw [List.append_nil]
  rfl
theorem tells_aw {ages : Bool} {c1 c2 : Chain} {n : Nat} : ∀ {w : List Nat}, Kb.dig (n + 2) w → AW ages c1 c2 n w → tells c1 ages (List.replicate c1.length none) (wordEv (evs n) w.reverse) = tells c2 ages (List.replicate c2.length none) (wordEv (evs n) w.reverse)
  | [], _, _ => rfl
  | e :: u, hw, h => by
    rw [tells_word hw, tells_word hw, tells_aw (Kb.dig_cons hw).2 h.1, h.2]
theorem isV_parted {ages : Bool} {c1 c2 : Chain} {n : Nat} {w : List Nat} (h : IsV ages c1 c2 n (.parted w)) : ∃ es h xs t1 t2, wordEv (evs n) w.reverse = es ++ [Ev.ask h] ∧
    tells c1 ages (List.replicate c1.length none) (es ++ [Ev.ask h]) = xs ++ [t1] ∧ tells c2 ages (List.replicate c2.length none) (es ++ [Ev.ask h]) = xs ++ [t2] ∧ t1 ≠ t2 := by
  obtain ⟨e, u, rfl, g1, g2⟩ := bad_iff.mp h.2.2.1
  obtain ⟨k1, k2⟩ := Kb.dig_cons h.2.1
  have hs := word_snoc (u := u) k1
  have w1 := tells_word (ages := ages) (c := c1) h.2.1
  have w2 := tells_word (ages := ages) (c := c2) h.2.1
  rw [← tells_aw k2 g1] at w2
  rw [hs] at w1 w2
  cases he : evN n e with
  | wait => unfold tw at g2; rw [he] at g2; exact absurd rfl g2
  | change => unfold tw at g2; rw [he] at g2; exact absurd rfl g2
  | ask i =>
    rw [he] at w1 w2 hs
    unfold tw at g2 w1 w2
    rw [he] at g2 w1 w2
    exact ⟨_, i, _, _, _, hs, w1, w2, fun z => g2 (congrArg (fun t => [t]) z)⟩
end K98
set_option Elab.async false
set_option linter.all false
namespace K98
open PySem PySem.Spec PyProof.Rows L2 Ru He6 TL
/-! the pairs of states that two built chains can reach -/
def chOkM (c : Chain) : Prop := 1 ≤ c.length ∧ c.length ≤ 2 ∧ ∀ h ∈ c, 0 ≤ h.lim ∧ h.lim ≤ 3
/-- the last hop: its age is the time since -/
def gL (l : Int) : Ent → Prop
  | none => True
  | some (_, a, s) => a = s ∧ 0 ≤ a ∧ a < l
def gF (l : Int) : Ent → Prop
  | none => True
  | some (_, a, s) => 0 ≤ a ∧ a < l ∧ a ≤ s ∧ s ≤ a + 2
def shp : Chain → Row → Prop
  | [h], [e] => gL h.lim e
  | [h1, h2], [e1, e2] => gF h1.lim e1 ∧ gL h2.lim e2
  | _, _ => False
theorem gL_map {l : Int} {r : Int → Int} {e : Ent} (h : gL l e) : gL l (rkE r e) := by
  cases e with
  | none => trivial
  | some z => exact h
theorem gF_map {l : Int} {r : Int → Int} {e : Ent} (h : gF l e) : gF l (rkE r e) := by
  cases e with
  | none => trivial
  | some z => exact h
theorem shp_map {r : Int → Int} : ∀ {c : Chain} {st : Row}, shp c st → shp c (st.map (rkE r))
  | [_], [_], h => gL_map h
  | [_, _], [_, _], h => ⟨gF_map h.1, gL_map h.2⟩
theorem gL_up {l : Int} {e : Ent} (h : gL l e) : gL l (upE e) := by
  cases e with
  | none => trivial
  | some z => exact h
theorem gF_up {l : Int} {e : Ent} (h : gF l e) : gF l (upE e) := by
  cases e with
  | none => trivial
  | some z => exact h
theorem gL_wait {l : Int} {e : Ent} (h : gL l e) : gL l (waited e l 1) := by
  cases e with
  | none => trivial
  | some z =>
    obtain ⟨b, a, s⟩ := z
    obtain ⟨h1, h2, h3⟩ := h
    unfold waited
    by_cases c : l ≤ a + 1
    · simp only [if_pos c]; trivial
    · simp only [if_neg c]; exact ⟨by omega, by omega, by omega⟩
theorem gF_wait {l : Int} {e : Ent} (h : gF l e) : gF l (waited e l 1) := by
  cases e with
  | none => trivial
  | some z =>
    obtain ⟨b, a, s⟩ := z
    obtain ⟨h1, h2, h3, h4⟩ := h
    unfold waited
    by_cases c : l ≤ a + 1
    · simp only [if_pos c]; trivial
    · simp only [if_neg c]; exact ⟨by omega, by omega, by omega, by omega⟩
theorem ini_zero (d : Bool) : iniAge d 0 0 = 0 := by cases d <;> rfl
theorem gL_new {l b : Int} : gL l (if (0 : Int) < l then some (b, 0, 0) else none) := by
  by_cases c : (0 : Int) < l
  · rw [if_pos c]; exact ⟨rfl, Int.le_refl _, c⟩
  · rw [if_neg c]; trivial
theorem shp_ask1 {h : Hop} {e : Ent} (g : gL h.lim e) : ∃ f, (askS [h] [e]).row = [f] ∧ gL h.lim f ∧ 0 ≤ (askS [h] [e]).told ∧ (askS [h] [e]).told ≤ (askS [h] [e]).s ∧ ((askS [h] [e]).s = 0 ∨ (askS [h] [e]).s < h.lim) := by
  cases e with
  | none =>
    have : askS [h] [none] = ⟨[if (0 : Int) < h.lim then some (0, 0, 0) else none], 0, 0, 0⟩ := by
      show (⟨_, _, _, _⟩ : Ask) = _
      simp only [askS, ini_zero, ite_self]
    rw [this]
    exact ⟨_, rfl, gL_new, Int.le_refl _, Int.le_refl _, .inl rfl⟩
  | some z =>
    obtain ⟨b, a, s⟩ := z
    obtain ⟨h1, h2, h3⟩ := g
    refine ⟨_, rfl, ⟨h1, h2, h3⟩, ?_, ?_, .inr (by show s < _; omega)⟩
    · show 0 ≤ (if h.tells = true then a else 0)
      split <;> omega
    · show (if h.tells = true then a else 0) ≤ s
      split <;> omega
theorem shp_ask {c : Chain} {st : Row} (k : ∀ h ∈ c, 0 ≤ h.lim ∧ h.lim ≤ 3) (hop : Nat) (g : shp c st) : shp c (asked c st hop).row := by
  match c, st, g with
  | [h], [e], g =>
    match hop with
    | 0 | 1 =>
      obtain ⟨f, h1, h2, _⟩ := shp_ask1 g
      show shp [h] ([] ++ (askS [h] [e]).row)
      rw [h1]; exact h2
    | hop + 2 =>
      show shp [h] (([e] : Row).take (hop + 1) ++ (askS (([h] : Chain).drop (hop + 1)) (([e] : Row).drop (hop + 1))).row)
      rw [List.take_of_length_le (by simp), List.drop_of_length_le (by simp), List.drop_of_length_le (by simp)]
      exact g
  | [h1, h2], [e1, e2], g =>
    obtain ⟨f, q1, q2, q3, q4, q5⟩ := shp_ask1 g.2
    match hop with
    | 0 | 1 =>
      show shp [h1, h2] ([] ++ (askS [h1, h2] [e1, e2]).row)
      cases e1 with
      | some z => exact g
      | none =>
        have kl := k h2 (by simp)
        generalize hr : askS [h2] [e2] = r at q1 q3 q4 q5
        have e0 : (askS [h1, h2] [none, e2]).row = (if iniAge h1.dates r.told r.s < h1.lim then some (r.b, iniAge h1.dates r.told r.s, r.s) else none) :: r.row := by
          rw [← hr]; rfl
        rw [List.nil_append, e0, q1]
        refine ⟨?_, q2⟩
        have hi : 0 ≤ iniAge h1.dates r.told r.s ∧ iniAge h1.dates r.told r.s ≤ r.s := by
          unfold iniAge
          split
          · split <;> omega
          · omega
        by_cases cl : iniAge h1.dates r.told r.s < h1.lim
        · rw [if_pos cl]; exact ⟨hi.1, cl, hi.2, by rcases q5 with q | q <;> omega⟩
        · rw [if_neg cl]; trivial
    | 2 =>
      show shp [h1, h2] ([e1] ++ (askS [h2] [e2]).row)
      rw [q1]; exact ⟨g.1, q2⟩
    | hop + 3 =>
      show shp [h1, h2] (([e1, e2] : Row).take (hop + 2) ++ (askS (([h1, h2] : Chain).drop (hop + 2)) (([e1, e2] : Row).drop (hop + 2))).row)
      rw [List.take_of_length_le (by simp), List.drop_of_length_le (by simp), List.drop_of_length_le (by simp)]
      exact g
theorem shp_step {c : Chain} {st : Row} (k : ∀ h ∈ c, 0 ≤ h.lim ∧ h.lim ≤ 3) (e : Ev) (g : shp c st) : shp c (step c st e).1 := by
  cases e with
  | wait =>
    match c, st, g with
    | [h], [e], g => exact gL_wait g
    | [h1, h2], [e1, e2], g => exact ⟨gF_wait g.1, gL_wait g.2⟩
  | change =>
    match c, st, g with
    | [h], [e], g => exact gL_up g
    | [h1, h2], [e1, e2], g => exact ⟨gF_up g.1, gL_up g.2⟩
  | ask hop => exact shp_ask k hop g
theorem shp_ok {c : Chain} {st : Row} (g : shp c st) (hb : ∀ x ∈ nums st, 0 ≤ x) : stOk c st := by
  have hb' : ∀ b a s, some (b, a, s) ∈ st → 0 ≤ b := fun b a s h => hb b (mem_nums.mpr ⟨a, s, h⟩)
  match c, st, g with
  | [h], [e], g =>
    refine ⟨rfl, fun i b a s h' h1 h2 => ?_⟩
    have m := hb' b a s (List.mem_of_getElem? h1)
    match i with
    | 0 =>
      cases h1; cases h2
      exact ⟨m, g.2.1, by have := g.1; have := g.2.1; omega, g.2.2⟩
    | i + 1 => simp at h1
  | [k1, k2], [e1, e2], g =>
    refine ⟨rfl, fun i b a s h' h1 h2 => ?_⟩
    have m := hb' b a s (List.mem_of_getElem? h1)
    match i with
    | 0 =>
      cases h1; cases h2
      obtain ⟨g1, g2, g3, g4⟩ := g.1
      exact ⟨m, g1, by omega, g2⟩
    | 1 =>
      cases h1; cases h2
      obtain ⟨g1, g2, g3⟩ := g.2
      exact ⟨m, g2, by omega, g3⟩
    | i + 2 => simp at h1
def bIn (e : Ent) : Prop := ∀ b a s, e = some (b, a, s) → 0 ≤ b ∧ b < 5
def entsL (l : Nat) : List Ent := none :: (List.range 5).flatMap fun (b : Nat) => (List.range l).map fun (a : Nat) => some ((b : Int), (a : Int), (a : Int))
def entsF (l : Nat) : List Ent := none :: (List.range 5).flatMap fun (b : Nat) => (List.range l).flatMap fun (a : Nat) => (List.range 3).map fun (d : Nat) => some ((b : Int), (a : Int), (a : Int) + d)
theorem mem_entsL {l : Int} {e : Ent} (h : gL l e) (hb : bIn e) : e ∈ entsL l.toNat := by
  cases e with
  | none => exact List.mem_cons_self ..
  | some z =>
    obtain ⟨b, a, s⟩ := z
    obtain ⟨h1, h2, h3⟩ := h
    obtain ⟨b0, b5⟩ := hb b a s rfl
    refine List.mem_cons_of_mem _ (List.mem_flatMap.mpr ⟨b.toNat, List.mem_range.mpr (by omega), List.mem_map.mpr ⟨a.toNat, List.mem_range.mpr (by omega), ?_⟩⟩)
    rw [Int.toNat_of_nonneg b0, Int.toNat_of_nonneg h2, ← h1]
theorem mem_entsF {l : Int} {e : Ent} (h : gF l e) (hb : bIn e) : e ∈ entsF l.toNat := by
  cases e with
  | none => exact List.mem_cons_self ..
  | some z =>
    obtain ⟨b, a, s⟩ := z
    obtain ⟨h1, h2, h3, h4⟩ := h
    obtain ⟨b0, b5⟩ := hb b a s rfl
    refine List.mem_cons_of_mem _ (List.mem_flatMap.mpr ⟨b.toNat, List.mem_range.mpr (by omega), List.mem_flatMap.mpr ⟨a.toNat, List.mem_range.mpr (by omega), List.mem_map.mpr ⟨(s - a).toNat, List.mem_range.mpr (by omega), ?_⟩⟩⟩)
    rw [Int.toNat_of_nonneg b0, Int.toNat_of_nonneg h1, Int.toNat_of_nonneg (by omega)]
    congr 3
    omega
theorem entsL_len {l : Nat} (h : l ≤ 3) : (entsL l).length ≤ 16 := by
  match l, h with
  | 0, _ | 1, _ | 2, _ | 3, _ => decide +kernel
theorem entsF_len {l : Nat} (h : l ≤ 3) : (entsF l).length ≤ 46 := by
  match l, h with
  | 0, _ | 1, _ | 2, _ | 3, _ => decide +kernel
def rowsOf : Chain → List Row
  | [h] => (entsL h.lim.toNat).map fun e => [e]
  | [h1, h2] => (entsF h1.lim.toNat).flatMap fun e => (entsL h2.lim.toNat).map fun f => [e, f]
  | _ => []
theorem flat_len {α β : Type} {f : α → List β} {m : Nat} : ∀ {l : List α}, (∀ x ∈ l, (f x).length ≤ m) → (l.flatMap f).length ≤ l.length * m
  | [], _ => by simp
  | x :: l, h => by
    have h1 := h x (List.mem_cons_self ..)
    have h2 := flat_len (l := l) (f := f) (m := m) fun y hy => h y (List.mem_cons_of_mem _ hy)
    rw [List.flatMap_cons, List.length_append, List.length_cons, Nat.add_mul, Nat.one_mul]
    omega
theorem rowsOf_len {c : Chain} (k : chOkM c) : (rowsOf c).length ≤ 736 := by
  obtain ⟨k1, k2, k3⟩ := k
  match c, k1, k2, k3 with
  | [h], _, _, k3 =>
    have := k3 h (by simp)
    show ((entsL h.lim.toNat).map fun e => [e]).length ≤ _
    rw [List.length_map]
    exact Nat.le_trans (entsL_len (by omega)) (by decide)
  | [h1, h2], _, _, k3 =>
    have q1 := k3 h1 (by simp)
    have q2 := k3 h2 (by simp)
    show ((entsF h1.lim.toNat).flatMap fun e => (entsL h2.lim.toNat).map fun f => [e, f]).length ≤ _
    have := flat_len (l := entsF h1.lim.toNat) (f := fun e => (entsL h2.lim.toNat).map fun f => [e, f]) (m := 16) fun x _ => by rw [List.length_map]; exact entsL_len (by omega)
    have h3 := entsF_len (l := h1.lim.toNat) (by omega)
    omega
theorem mem_rowsOf {c : Chain} {st : Row} (g : shp c st) (hb : ∀ e ∈ st, bIn e) : st ∈ rowsOf c := by
  match c, st, g with
  | [h], [e], g => exact List.mem_map.mpr ⟨e, mem_entsL g (hb e (by simp)), rfl⟩
  | [h1, h2], [e1, e2], g => exact List.mem_flatMap.mpr ⟨e1, mem_entsF g.1 (hb e1 (by simp)), List.mem_map.mpr ⟨e2, mem_entsL g.2 (hb e2 (by simp)), rfl⟩⟩
theorem shp_start {c : Chain} (k : chOkM c) : shp c (List.replicate c.length none) := by
  obtain ⟨k1, k2, k3⟩ := k
  match c, k1, k2 with
  | [h], _, _ => trivial
  | [h1, h2], _, _ => exact ⟨trivial, trivial⟩
def goodP (c1 c2 : Chain) (p : Row × Row) : Prop := (shp c1 p.1 ∧ shp c2 p.2) ∧ (∀ e ∈ p.1, bIn e) ∧ ∀ e ∈ p.2, bIn e
open Classical in
noncomputable def univ (c1 c2 : Chain) : List (Row × Row) := ((rowsOf c1).flatMap fun r => (rowsOf c2).map fun s => (r, s)).filter fun p => decide (goodP c1 c2 p)
theorem mem_univ {c1 c2 : Chain} {p : Row × Row} : p ∈ univ c1 c2 ↔ goodP c1 c2 p := by
  classical
  unfold univ
  rw [List.mem_filter, decide_eq_true_iff]
  refine ⟨fun h => h.2, fun h => ⟨?_, h⟩⟩
  exact List.mem_flatMap.mpr ⟨p.1, mem_rowsOf h.1.1 h.2.1, List.mem_map.mpr ⟨p.2, mem_rowsOf h.1.2 h.2.2, rfl⟩⟩
theorem numsL (st : Row) : (nums st).length ≤ st.length := List.length_filterMap_le ..
theorem ddp_len : ∀ (ns : List Int), (ddp ns).length ≤ ns.length
  | [] => Nat.le_refl _
  | x :: xs => by
    unfold ddp
    have := ddp_len xs
    split
    · rw [List.length_cons]; omega
    · rw [List.length_cons, List.length_cons]; omega
theorem rank_bound {ns : List Int} {x : Int} (hx : x ∈ ns) (hl : ns.length ≤ 5) : 0 ≤ rank ns x ∧ rank ns x < 5 := by
  unfold rank
  have h1 : ((ddp ns).filter fun y => decide (y < x)).length < (ddp ns).length := by
    refine Nat.lt_of_le_of_ne (List.length_filter_le ..) fun e => ?_
    have := List.length_filter_eq_length_iff.mp e x (mem_ddp.mpr hx)
    simp at this
  have h2 := ddp_len ns
  omega
theorem shp_len {c : Chain} {st : Row} (g : shp c st) : st.length ≤ 2 := by
  match c, st, g with
  | [_], [_], _ => exact by simp
  | [_, _], [_, _], _ => exact by simp
theorem good_joined {c1 c2 : Chain} {f s : Row} (h1 : shp c1 f) (h2 : shp c2 s) : goodP c1 c2 (joined f s) := by
  have l1 := shp_len h1
  have l2 := shp_len h2
  have hl : (0 :: nums (f ++ s)).length ≤ 5 := by
    have := numsL (f ++ s)
    rw [List.length_append] at this
    rw [List.length_cons]; omega
  have key : ∀ st : Row, (∀ x ∈ nums st, x ∈ 0 :: nums (f ++ s)) → ∀ e ∈ st.map (rkE (rank (0 :: nums (f ++ s)))), bIn e := fun st hs e he b a s' h => by
    obtain ⟨e0, h0, rfl⟩ := List.mem_map.mp he
    cases e0 with
    | none => cases h
    | some z =>
      have hz := hs z.1 (mem_nums.mpr ⟨z.2.1, z.2.2, h0⟩)
      have := rank_bound hz hl
      have e1 : rank (0 :: nums (f ++ s)) z.1 = b := congrArg (fun x : Ent => (x.getD (0, 0, 0)).1) h
      rw [← e1]; exact this
  have m : ∀ x, x ∈ nums f ∨ x ∈ nums s → x ∈ 0 :: nums (f ++ s) := fun x hx => by
    unfold nums at hx ⊢
    rw [List.filterMap_append, List.mem_cons, List.mem_append]
    exact .inr hx
  exact ⟨⟨shp_map h1, shp_map h2⟩, key f fun x hx => m x (.inl hx), key s fun x hx => m x (.inr hx)⟩
theorem univ_ok {c1 c2 : Chain} (k1 : chOkM c1) (k2 : chOkM c2) (n : Nat) : Univ c1 c2 n (univ c1 c2) := by
  have hn : ∀ (k : Nat), ∀ e ∈ (List.replicate k none : Row), bIn e := fun k e he b a s h => by
    rw [List.eq_of_mem_replicate he] at h; cases h
  refine ⟨?_, mem_univ.mpr ⟨⟨shp_start k1, shp_start k2⟩, hn _, hn _⟩, fun p hp => ?_⟩
  · have h1 : (univ c1 c2).length ≤ ((rowsOf c1).flatMap fun r => (rowsOf c2).map fun s => (r, s)).length := List.length_filter_le ..
    have h2 := flat_len (l := rowsOf c1) (f := fun r => (rowsOf c2).map fun s => (r, s)) (m := 736) fun x _ => by rw [List.length_map]; exact rowsOf_len k2
    have h3 := Nat.mul_le_mul_right 736 (rowsOf_len k1)
    omega
  · obtain ⟨⟨g1, g2⟩, g3, g4⟩ := mem_univ.mp hp
    have pos : ∀ st : Row, (∀ e ∈ st, bIn e) → ∀ x ∈ nums st, 0 ≤ x := fun st h x hx => by
      obtain ⟨a, s, q⟩ := mem_nums.mp hx
      exact (h _ q x a s rfl).1
    exact ⟨⟨shp_ok g1 (pos _ g3), shp_ok g2 (pos _ g4)⟩, fun j _ => mem_univ.mpr (good_joined (shp_step k1.2.2 _ g1) (shp_step k2.2.2 _ g2))⟩
end K98
set_option Elab.async false
set_option linter.all false
set_option maxRecDepth 100000
set_option maxHeartbeats 4000000
namespace K98
open PySem PySem.Spec PyProof.Rows L2 Ru He6 TL
open C8 (Cal pe_c)
theorem at_0 {α : Type} {x : α} {l : List α} : atI (x :: l) 0 = some x := by
  unfold atI ixN
  rw [if_pos (by decide), if_pos (by simp)]
  rfl
theorem at_1 {α : Type} {x y : α} {l : List α} : atI (x :: y :: l) 1 = some y := by
  unfold atI ixN
  rw [if_pos (by decide), if_pos (by simp; omega)]
  rfl
section
variable {P : Program} {w : World} {K : PySem.W.Frag} {mg : Str → Option Value} {base : Heap}
theorem cn_compare (T : TT K mg) : CalK P w K mg base 14 "compare" 2 ["ages"] (fun vs zs => vs ++ zs) (sp_compare K) :=
  (ok_compare T).cal 2 ["ages"] (fun us ws => us ++ ws) (by simp) (fun r1 r2 => r1.append r2) fun D doc pm an cdv ct us ws l1 l2 => match us, ws, l1, l2 with | [_, _], [_], _, _ => rfl
theorem cn_is_alike (T : TT K mg) : CalK P w K mg base 14 "is_alike" 3 ["ages"] (fun vs zs => vs ++ zs) (sp_is_alike K) :=
  (ok_is_alike T).cal 3 ["ages"] (fun us ws => us ++ ws) (by simp) (fun r1 r2 => r1.append r2) fun D doc pm an cdv ct us ws l1 l2 => match us, ws, l1, l2 with | [_, _, _], [_], _, _ => rfl
theorem sc_law_both_ways : FnScope ["_law_rows", "_law_profiles", "_law_both", "_law_there", "_law_back", "_law_turned", "_law_pair"] ["_law_rows", "_law_profiles", "_law_both", "_law_there"] (defScope s_law_both_ways) := ⟨rfl, rfl, rfl, by decide +kernel, rfl, by decide +kernel, by decide +kernel⟩
def sp_law_both_ways (K : PySem.W.Frag) : Sp := fun vs H Q _ => ∃ pr pp both v a b p q ra rp s t U V, vs = [.ref pr, .ref pp, .bl both, v] ∧ SqL K H pr (.ref a :: .ref b :: ra) ∧ SqL K H pp (.ref p :: .ref q :: rp) ∧ SetAt K H a s ∧ SetAt K H b t ∧ SetOk s ∧ SetOk t ∧ s.makes.length ≤ 9 ∧ t.makes.length ≤ 9 ∧ ProfAt K H p (chainOf s) ∧ ProfAt K H q (chainOf t) ∧ Univ (chainOf t) (chainOf s) (min s.makes.length t.makes.length) U ∧ IsV both (chainOf s) (chainOf t) (min s.makes.length t.makes.length) V ∧ Dp K H v (dV (min s.makes.length t.makes.length) V) ∧ ∀ H', Same H H' → Q (.bl true) H'
theorem okg_law_both_ways (T : TT K mg) : CalG P w K mg base 15 "_law_both_ways" (sp_law_both_ways K) := by
  refine calG_of (f_law_both_ways T) (g_law_both_ways T) sc_law_both_ways (fun _ _ _ _ _ _ us hl => match us, hl with | [_, _, _, _], _ => rfl) (fun vs H Q E h => ?_) (fun cdv A outer s H vs Q E hr hgd h => ?_)
  · obtain ⟨pr, pp, both, v, a, b, p, q, ra, rp, s, t, U, V, rfl, hpr, hpp, hs, ht, sok, tok, s9, t9, hp, hq, hU, hV, hv, k⟩ := h; rfl
  · obtain ⟨pr, pp, both, v, a, b, p, q, ra, rp, s, t, U, V, rfl, hpr, hpp, hs, ht, sok, tok, s9, t9, hp, hq, hU, hV, hv, k⟩ := h
    refine ⟨_, (pss_cons (ps_set (i := 4) sc_law_both_ways.nd rfl (.inl rfl) (pe_cK (cn_compare T) hr (by decide) (by rfl) (pa_cons (pe_ix ix_list (pv 0) pe_int (fun _ _ => rfl)) (pa_cons (pe_ix ix_list (pv 0) pe_int (fun _ _ => rfl)) pa_nil)) (pk_cons (pv 2) pk_nil)))
      (pss_cons (ps_if (PW.pt (pw_or (pt_not (pt_val (pe_c (ok_law_is_verdict T) hr (by decide) (by rfl) (pa_cons (pv 3) pa_nil)))) (pw_or (pt_not (pt_val (pe_c (ok_law_is_verdict T) hr (by decide) (by rfl) (pa_cons (pv 4) pa_nil)))) (pw_or1 (pt_not (pt_val (pe_cG (okg_law_like T) hr (by decide) hgd (by rfl) (pa_cons (pv 3) (pa_cons (pv 4) pa_nil)))))))))
      (pss_one (ps_ret pe_bl))
      pss_nil)
      (pss_cons (ps_if (pt_cmpR op_eq (pe_ix ix_tup (pv 3) pe_int (fun _ _ => rfl)) pe_str (nomark _))
      (pss_one (ps_ret (pe_c (ok_law_parted T) hr (by decide) (by rfl) (pa_cons (pe_ix ix_list (pv 1) pe_int (fun _ _ => rfl)) (pa_cons (pe_ix ix_list (pv 1) pe_int (fun _ _ => rfl)) (pa_cons (pe_ix ix_tup (pv 3) pe_int (fun _ _ => rfl)) (pa_cons (pv 2) pa_nil)))))))
      pss_nil)
      (pss_cons (ps_setLc (i := 5) (own := [("_law_pair", 6)]) (g := (gName 6)) (tt := tYes) rfl sc_law_both_ways.nd rfl rfl (sw_true rfl rfl rfl (by decide +kernel)) (pi_list (pe_ix ix_tup (pv 3) pe_int (fun _ _ => rfl))) (blkOk_by (own := [("_law_pair", 6)]) (N := ["_law_rows", "_law_profiles", "_law_both", "_law_there", "_law_back", "_law_turned", "_law_pair"]) (sc := defScope s_law_both_ways) (by decide +kernel)) (fun _ _ _ _ _ => (pg_name (i := 6) sc_law_both_ways.nd rfl (.inl rfl))) (fun _ _ _ _ _ => pts_nil) (fun _ _ _ _ _ => (pe_tup (pa_cons (pe_ix (r := rIxT K) ix_tup (pv 6) pe_int (fun _ _ => rfl)) (pa_cons (pe_ix (r := rIxT K) ix_tup (pv 6) pe_int (fun _ _ => rfl)) pa_nil)))))
      (pss_cons (ps_if (pt_cmpR op_notBl (pe_cK (cn_is_alike T) hr (by decide) (by rfl) (pa_cons (pe_ix ix_list (pv 0) pe_int (fun _ _ => rfl)) (pa_cons (pe_ix ix_list (pv 0) pe_int (fun _ _ => rfl)) (pa_cons (pe_callTy call_list_of (by rfl) (b_list T) (by decide +kernel) (pa_cons (pe_ix ix_tup (pv 3) pe_int (fun _ _ => rfl)) pa_nil)) pa_nil))) (pk_cons (pv 2) pk_nil)) pe_bl (nomark _))
      (pss_one (ps_ret pe_bl))
      pss_nil)
      (pss_one (ps_ret (pe_cmpR op_isBl (pe_cK (cn_is_alike T) hr (by decide) (by rfl) (pa_cons (pe_ix ix_list (pv 0) pe_int (fun _ _ => rfl)) (pa_cons (pe_ix ix_list (pv 0) pe_int (fun _ _ => rfl)) (pa_cons (pv 5) pa_nil))) (pk_cons (pv 2) pk_nil)) pe_bl (nomark _))))))))), ?_⟩
    have hmc : min t.makes.length s.makes.length = min s.makes.length t.makes.length := Nat.min_comm ..
    have cl1 : 1 ≤ (chainOf s).length ∧ (chainOf s).length ≤ 20 := by unfold chainOf; rw [List.length_map]; exact ⟨sok.1, sok.2.1⟩
    have cl2 : 1 ≤ (chainOf t).length ∧ (chainOf t).length ≤ 20 := by unfold chainOf; rw [List.length_map]; exact ⟨tok.1, tok.2.1⟩
    have hn1 : min s.makes.length t.makes.length ≤ (chainOf s).length := by unfold chainOf; rw [List.length_map]; omega
    have hn2 : min s.makes.length t.makes.length ≤ (chainOf t).length := by unfold chainOf; rw [List.length_map]; omega
    have hn9 : min s.makes.length t.makes.length ≤ 9 := Nat.le_trans (Nat.min_le_left _ _) s9
    refine ⟨_, rfl, _, _, _, _, rfl, rfl, hpr, at_1, _, rfl, _, _, _, _, rfl, rfl, hpr, at_0, _, rfl, rfl, rfl, ?_⟩
    refine ⟨b, a, both, t, s, U, rfl, ht, hs, tok, sok, by rw [hmc]; exact hU, fun vb H1 V' e1 hV' hvb => ?_⟩
    rw [hmc] at hV' hvb
    have hlk := isV_like hV hV'
    refine gN ?_
    dsimp only
    have hv1 := Dp.mono e1 _ _ hv
    refine ⟨_, rfl, v, _, V, rfl, hv1, _, rfl, iteF ?_⟩
    refine ⟨_, rfl, vb, _, V', rfl, hvb, _, rfl, iteF ?_⟩
    have hvo : verdOk (min s.makes.length t.makes.length) V := by
      cases V with
      | same R => trivial
      | parted w => exact ⟨hV.1, hV.2.1⟩
    refine ⟨_, rfl, _, rfl, v, vb, _, V, V', rfl, hv1, hvb, hlk, hvo, hn9, _, rfl, iteF ?_⟩
    cases V with
    | parted w =>
      obtain ⟨pv_, av, rfl, hpv, hav⟩ := two_str hv1
      refine ⟨_, rfl, _, _, _, _, rfl, rfl, hpv, rfl, rfl, _, rfl, iteT ?_⟩
      obtain ⟨es, h, xs, t1, t2, w1, w2, w3, w4⟩ := isV_parted hV
      obtain ⟨l, evv, rfl, hl, ha⟩ := hav.lstI
      have hlen : (wordEv (evs (min s.makes.length t.makes.length)) w.reverse).length ≤ 900001 := Nat.le_trans (List.length_filterMap_le _ _) (by rw [List.length_reverse]; exact hvo.1)
      have hwo := word_ok (m := min (chainOf s).length (chainOf t).length) (by omega) w.reverse (n := min s.makes.length t.makes.length)
      rw [w1] at ha hlen hwo
      have hle : es.length < 16000000 := by rw [List.length_append] at hlen; omega
      refine ⟨_, rfl, _, _, _, _, rfl, rfl, Evl.ex_l e1 hpp, at_0, _, rfl, _, _, _, _, rfl, rfl, Evl.ex_l e1 hpp, at_1, _, rfl, _, _, _, _, rfl, rfl, hpv, rfl, _, rfl, ?_⟩
      exact ⟨p, q, l, both, chainOf s, chainOf t, es, h, xs, t1, t2, evv, rfl, hp.mono e1, hq.mono e1, hl, ha, hwo, cl1.1, cl1.2, cl2.1, cl2.2, hle, w2, w3, w4, fun H2 e2 => k _ (e1.trans e2)⟩
    | same R =>
      obtain ⟨pv_, av, rfl, hpv, hav⟩ := two_str hv1
      refine ⟨_, rfl, _, _, _, _, rfl, rfl, hpv, rfl, rfl, _, rfl, iteF ?_⟩
      obtain ⟨pl, rs, rfl, hl, ha⟩ := hav.lstI
      have hrl : rs.length = R.length := by have := DpAll.len ha; simpa using this
      refine ⟨_, rfl, _, _, _, _, rfl, rfl, hpv, rfl, pl, rfl, ⟨rs, hl⟩, fun D hD => ?_⟩
      refine lc_mapR (walk_list (xs := rs)) (fun i v H' => ∃ x, R[i]? = some x ∧ Dp K H' v (dP x.swap)) (fun i v H1 H2 e ⟨x, q, r⟩ => ⟨x, q, Dp.monoL e _ _ (noL_dP _) r⟩) (by rw [hrl]; exact Nat.le_trans hV.1 (by decide)) hD (fun H' e => Evl.ex_l e hl) ?_ ?_
      · rintro i x H3 H4 Z hi e ⟨rfl, hx⟩ kz
        have hi2 : i < R.length := by rw [← hrl]; exact hi
        obtain ⟨dd, g1, g2⟩ := DpAll.get' ha hx
        rw [List.getElem?_map, List.getElem?_eq_getElem hi2] at g1
        cases g1
        obtain ⟨pt, xa, xb, rfl, hpt, dxa, dxb⟩ := two_at (Dp.mono e _ _ g2)
        refine ⟨rfl, _, rfl, _, _, _, _, rfl, rfl, hpt, rfl, _, rfl, _, _, _, _, rfl, rfl, hpt, rfl, by show 2 ≤ sizeLine; decide, fun t ht => ?_⟩
        exact kz _ _ ⟨_, List.getElem?_eq_getElem hi2, two_new ht dxb dxa⟩ (same_new ht)
      intro H2 acc e2 hDacc hlacc hR
      have hacc : DpAll K H2 acc ((R.map Prod.swap).map dP) := dpAll_of (by simp [hlacc, hrl]) fun i v ei => by
        obtain ⟨x, h1, h2⟩ := hR i v ei
        exact ⟨dP x.swap, by simp [h1], h2⟩
      refine gN ?_
      dsimp only
      have e02 := e1.trans e2
      refine ⟨_, rfl, _, _, _, _, rfl, rfl, Evl.ex_l e02 hpr, at_0, _, rfl, _, _, _, _, rfl, rfl, Evl.ex_l e02 hpr, at_1, _, rfl, _, _, _, _, rfl, rfl, Evl.ex_t e2 hpv, rfl, ?_⟩
      refine ⟨pl, rs, rfl, .inl (Evl.ex_l e2 hl), fun L hL => ?_⟩
      have e3 : Same H2 (upd H2 L (.lst rs)) := same_new hL
      have e03 := e02.trans e3
      refine ⟨_, rfl, rfl, rfl, a, b, L, both, s, t, R, rs, rfl, hs.mono e03, ht.mono e03, sok, tok, .of upd_same, Dp.monoAll (e2.trans e3) _ _ ha, hV, fun H4 e4 => ?_⟩
      have e04 := e03.trans e4
      refine ⟨true, true, rfl, rfl, _, rfl, iteF ?_⟩
      refine ⟨_, rfl, _, _, _, _, rfl, rfl, Evl.ex_l e04 hpr, at_1, _, rfl, _, _, _, _, rfl, rfl, Evl.ex_l e04 hpr, at_0, _, rfl, ?_⟩
      refine ⟨_, rfl, rfl, rfl, b, a, D, both, t, s, R.map Prod.swap, acc, rfl, ht.mono e04, hs.mono e04, tok, sok, Evl.ex_l (e3.trans e4) (.of hDacc), Dp.monoAll (e3.trans e4) _ _ hacc, ?_, fun H5 e5 => ?_⟩
      · rw [hmc]; exact isV_swap hV
      · exact ⟨true, true, rfl, rfl, k _ (e04.trans e5)⟩
end
end K98
set_option Elab.async false
set_option linter.all false
set_option maxRecDepth 100000
set_option maxHeartbeats 4000000
namespace K98
open PySem PySem.Spec PyProof.Rows L2 Ru He6 TL
open C8 (Cal pe_c)
def isSame : Verd → Bool
  | .same _ => true
  | .parted _ => false
def tagV : Verd → Str
  | .same _ => "same"
  | .parted _ => "parted"
theorem tag_at {K : PySem.W.Frag} {H : Hp} {v : V} {n : Nat} {V : Verd} (h : Dp K H v (dV n V)) : ∃ p u, v = .ref p ∧ SqT K H p [.str (tagV V), u] := by
  cases V with
  | same R => obtain ⟨p, u, e, h1, _⟩ := two_str h; exact ⟨p, u, e, h1⟩
  | parted R => obtain ⟨p, u, e, h1, _⟩ := two_str h; exact ⟨p, u, e, h1⟩
theorem tag_same (V : Verd) : decide (L2.V.str (tagV V) = L2.V.str "same") = isSame V := by
  cases V <;> rfl
theorem min2 (i j : Nat) : (if (j : Int) < (i : Int) then (j : Int) else (i : Int)) = ((min i j : Nat) : Int) := by
  by_cases hq : (j : Int) < (i : Int)
  · rw [if_pos hq]; omega
  · rw [if_neg hq]; omega
theorem at_2 {α : Type} {x y z : α} {l : List α} : atI (x :: y :: z :: l) 2 = some z := by
  unfold atI ixN
  rw [if_pos (by decide), if_pos (by simp; omega)]
  rfl
section
variable {P : Program} {w : World} {K : PySem.W.Frag} {mg : Str → Option Value} {base : Heap}
theorem sc_law_through : FnScope ["_law_near", "_law_far", "_law_outer", "_law_counts", "_law_common"] ["_law_near", "_law_far", "_law_outer", "_law_counts"] (defScope s_law_through) := ⟨rfl, rfl, rfl, by decide +kernel, rfl, by decide +kernel, by decide +kernel⟩
def sp_law_through (K : PySem.W.Frag) : Sp := fun vs H Q _ => ∃ u v z pc V1 V2 V3 k0 k1 k2, vs = [u, v, z, .ref pc] ∧ SqL K H pc [.int (k0 : Nat), .int (k1 : Nat), .int (k2 : Nat)] ∧ Dp K H u (dV (min k0 k1) V1) ∧ Dp K H v (dV (min k1 k2) V2) ∧ Dp K H z (dV (min k0 k2) V3) ∧ verdOk (min k0 k1) V1 ∧ verdOk (min k1 k2) V2 ∧ k0 ≤ 9 ∧ k1 ≤ 9 ∧ (isSame V1 = true → min k1 k2 = min k0 k2 → likeV V2 V3) ∧ (isSame V2 = true → min k0 k1 = min k0 k2 → likeV V1 V3) ∧ (isSame V1 = true → isSame V2 = true → min k0 k2 ≤ k1 → isSame V3 = true) ∧ Q (.bl true) H
theorem okg_law_through (T : TT K mg) : CalG P w K mg base 2 "_law_through" (sp_law_through K) := by
  refine calG_of (f_law_through T) (g_law_through T) sc_law_through (fun _ _ _ _ _ _ us hl => match us, hl with | [_, _, _, _], _ => rfl) (fun vs H Q E h => ?_) (fun cdv A outer s H vs Q E hr hgd h => ?_)
  · obtain ⟨u, v, z, pc, V1, V2, V3, k0, k1, k2, rfl, hc, hu, hv, hz, o1, o2, l0, l1, hA, hB, hC, k⟩ := h; rfl
  · obtain ⟨u, v, z, pc, V1, V2, V3, k0, k1, k2, rfl, hc, hu, hv, hz, o1, o2, l0, l1, hA, hB, hC, k⟩ := h
    refine ⟨_, (pss_cons (ps_set (i := 4) sc_law_through.nd rfl (.inl rfl) (pe_callB (call_min2 rfl) (by rfl) (b_min T) (by decide +kernel) (pa_cons (pe_ix ix_list (pv 3) pe_int (fun _ _ => rfl)) (pa_cons (pe_ix ix_list (pv 3) pe_int (fun _ _ => rfl)) pa_nil))))
      (pss_cons (ps_if (PW.pt (pw_and (pt_cmpR op_eq (pe_ix ix_tup (pv 0) pe_int (fun _ _ => rfl)) pe_str (nomark _)) (pw_and (pt_cmpR op_eq (pe_callB (call_min2 rfl) (by rfl) (b_min T) (by decide +kernel) (pa_cons (pe_ix ix_list (pv 3) pe_int (fun _ _ => rfl)) (pa_cons (pe_ix ix_list (pv 3) pe_int (fun _ _ => rfl)) pa_nil))) (pv 4) (nomark _)) (pw_and1 (pt_not (pt_val (pe_cG (okg_law_like T) hr (by decide) hgd (by rfl) (pa_cons (pv 1) (pa_cons (pv 2) pa_nil)))))))))
      (pss_one (ps_ret pe_bl))
      pss_nil)
      (pss_cons (ps_if (PW.pt (pw_and (pt_cmpR op_eq (pe_ix ix_tup (pv 1) pe_int (fun _ _ => rfl)) pe_str (nomark _)) (pw_and (pt_cmpR op_eq (pe_callB (call_min2 rfl) (by rfl) (b_min T) (by decide +kernel) (pa_cons (pe_ix ix_list (pv 3) pe_int (fun _ _ => rfl)) (pa_cons (pe_ix ix_list (pv 3) pe_int (fun _ _ => rfl)) pa_nil))) (pv 4) (nomark _)) (pw_and1 (pt_not (pt_val (pe_cG (okg_law_like T) hr (by decide) hgd (by rfl) (pa_cons (pv 0) (pa_cons (pv 2) pa_nil)))))))))
      (pss_one (ps_ret pe_bl))
      pss_nil)
      (pss_one (ps_ret (pe_or (pe_not (pe_and (pe_cmpR op_eq (pe_ix ix_tup (pv 0) pe_int (fun _ _ => rfl)) pe_str (nomark _)) (pe_and (pe_cmpR op_eq (pe_ix ix_tup (pv 1) pe_int (fun _ _ => rfl)) pe_str (nomark _)) (pe_one (pe_cmpR op_ge (pe_ix ix_list (pv 3) pe_int (fun _ _ => rfl)) (pv 4) (nomark _)))))) (pe_one (pe_cmpR op_eq (pe_ix ix_tup (pv 2) pe_int (fun _ _ => rfl)) pe_str (nomark _))))))))), ?_⟩
    obtain ⟨p1, u1, rfl, q1⟩ := tag_at hu
    obtain ⟨p2, u2, rfl, q2⟩ := tag_at hv
    obtain ⟨p3, u3, rfl, q3⟩ := tag_at hz
    refine ⟨_, rfl, _, _, _, _, rfl, rfl, hc, at_0, _, rfl, _, _, _, _, rfl, rfl, hc, at_2, _, _, rfl, ?_⟩
    rw [min2]
    refine gN ?_
    dsimp only
    refine seqM (fun σ H' => σ = [some (.ref p1), some (.ref p2), some (.ref p3), some (.ref pc), some (.int ((min k0 k2 : Nat) : Int))] ∧ H' = H) (fun Nx hNx => ?_) ?_
    · refine ⟨_, rfl, _, _, _, _, rfl, rfl, q1, rfl, rfl, ?_⟩
      rw [tag_same]
      refine ⟨_, rfl, ?_⟩
      cases hs : isSame V1 with
      | false =>
        refine iteF ?_
        exact hNx _ _ ⟨rfl, rfl⟩
      | true =>
        refine iteT ?_
        refine ⟨_, rfl, _, _, _, _, rfl, rfl, hc, at_1, _, rfl, _, _, _, _, rfl, rfl, hc, at_2, _, _, rfl, ?_⟩
        rw [min2]
        refine ⟨_, rfl, rfl, ?_⟩
        by_cases hq : min k1 k2 = min k0 k2
        · rw [decide_eq_true (by rw [hq])]
          refine ⟨_, rfl, iteT ?_⟩
          refine ⟨_, rfl, _, rfl, ?_⟩
          refine ⟨_, _, min k0 k2, V2, V3, rfl, hq ▸ hv, hz, hA hs hq, hq ▸ o2, Nat.le_trans (Nat.min_le_left _ _) l0, ?_⟩
          exact ⟨_, rfl, iteF (hNx _ _ ⟨rfl, rfl⟩)⟩
        · rw [decide_eq_false (by intro z; injection z with z; exact hq (Int.ofNat.inj z))]
          exact ⟨_, rfl, iteF (hNx _ _ ⟨rfl, rfl⟩)⟩
    rintro σ H' ⟨rfl, rfl⟩
    refine seqM (fun σ H2 => σ = [some (.ref p1), some (.ref p2), some (.ref p3), some (.ref pc), some (.int ((min k0 k2 : Nat) : Int))] ∧ H2 = H') (fun Nx hNx => ?_) ?_
    · refine ⟨_, rfl, _, _, _, _, rfl, rfl, q2, rfl, rfl, ?_⟩
      rw [tag_same]
      refine ⟨_, rfl, ?_⟩
      cases hs : isSame V2 with
      | false =>
        refine iteF ?_
        exact hNx _ _ ⟨rfl, rfl⟩
      | true =>
        refine iteT ?_
        refine ⟨_, rfl, _, _, _, _, rfl, rfl, hc, at_0, _, rfl, _, _, _, _, rfl, rfl, hc, at_1, _, _, rfl, ?_⟩
        rw [min2]
        refine ⟨_, rfl, rfl, ?_⟩
        by_cases hq : min k0 k1 = min k0 k2
        · rw [decide_eq_true (by rw [hq])]
          refine ⟨_, rfl, iteT ?_⟩
          refine ⟨_, rfl, _, rfl, ?_⟩
          refine ⟨_, _, min k0 k2, V1, V3, rfl, hq ▸ hu, hz, hB hs hq, hq ▸ o1, Nat.le_trans (Nat.min_le_left _ _) l0, ?_⟩
          exact ⟨_, rfl, iteF (hNx _ _ ⟨rfl, rfl⟩)⟩
        · rw [decide_eq_false (by intro z; injection z with z; exact hq (Int.ofNat.inj z))]
          exact ⟨_, rfl, iteF (hNx _ _ ⟨rfl, rfl⟩)⟩
    rintro σ H2 ⟨rfl, rfl⟩
    refine ⟨_, rfl, _, _, _, _, rfl, rfl, q1, rfl, rfl, ?_⟩
    rw [tag_same]
    refine ⟨_, rfl, ?_⟩
    cases hs1 : isSame V1 with
    | false => exact iteF ⟨_, rfl, _, rfl, iteT k⟩
    | true =>
      refine iteT ?_
      refine ⟨_, rfl, _, _, _, _, rfl, rfl, q2, rfl, rfl, ?_⟩
      rw [tag_same]
      refine ⟨_, rfl, ?_⟩
      cases hs2 : isSame V2 with
      | false => exact iteF ⟨_, rfl, _, rfl, iteT k⟩
      | true =>
        refine iteT ?_
        refine ⟨_, rfl, _, _, _, _, rfl, rfl, hc, at_1, _, rfl, _, _, rfl, rfl, ?_⟩
        by_cases hq : min k0 k2 ≤ k1
        · have hd : decide (((min k0 k2 : Nat) : Int) ≤ (k1 : Int)) = true := decide_eq_true (by omega)
          refine ⟨_, rfl, _, rfl, ?_⟩
          rw [hd]
          refine iteF ?_
          refine ⟨_, rfl, _, _, _, _, rfl, rfl, q3, rfl, rfl, ?_⟩
          rw [tag_same, hC hs1 hs2 hq]
          exact k
        · have hd : decide (((min k0 k2 : Nat) : Int) ≤ (k1 : Int)) = false := decide_eq_false (by omega)
          refine ⟨_, rfl, _, rfl, ?_⟩
          rw [hd]
          exact iteT k
end
end K98
set_option Elab.async false
set_option linter.all false
set_option maxRecDepth 100000
set_option maxHeartbeats 4000000
namespace K98
open PySem PySem.Spec PyProof.Rows L2 Ru He6 TL
open C8 (Cal pe_c)
/-- the bag of the script's draws: the great ints, a seed, the count of draws -/
def BagAt (H : Hp) (b g : Addr) (c : Nat) : Prop := ∃ (gs : List Int) (seed : Int) (n : Nat), H b = some (.lst [.ref g, .int seed, .int (n : Nat)]) ∧ H g = some (.lst (gs.map V.int)) ∧ gs.length ≤ 63 ∧ 0 ≤ seed ∧ seed < 2147483647 ∧ n ≤ c
def Kept2 (b g : Addr) (H H' : Hp) : Prop := ∀ x o, H x = some o → x ≠ b → x ≠ g → H' x = some o
section
variable {P : Program} {w : World} {K : PySem.W.Frag} {mg : Str → Option Value} {base : Heap}
theorem sc_law_bag : FnScope ["_law_script", "_law_great", "_law_seed", "_law_spot", "_law_size"] ["_law_script"] (defScope s_law_bag) := ⟨rfl, rfl, rfl, by decide +kernel, rfl, by decide +kernel, by decide +kernel⟩
def sp_law_bag (K : PySem.W.Frag) : Sp := fun vs H Q _ => ∃ (a : Addr) (ns : List Int), vs = [.ref a] ∧ SqL K H a (ns.map V.int) ∧ ns.length ≤ 63 ∧ ∀ b g H', Same H H' → H b = none → H g = none → b ≠ g → BagAt H' b g 0 → Q (.ref b) H'
theorem ok_law_bag (T : TT K mg) : Cal P w K mg base 1 "_law_bag" (sp_law_bag K) [] := by
  refine cal_of (f_law_bag T) (g_law_bag T) sc_law_bag (fun _ _ _ _ _ _ us hl => match us, hl with | [_], _ => rfl) (fun vs H Q E h => ?_) (fun cdv A outer s H vs Q E hr h => ?_)
  · obtain ⟨a, ns, rfl, ha, hn, k⟩ := h; rfl
  · obtain ⟨a, ns, rfl, ha, hn, k⟩ := h
    refine ⟨_, (pss_cons (ps_set (i := 1) sc_law_bag.nd rfl (.inl rfl) (pe_lst pa_nil))
      (pss_cons (ps_set (i := 2) sc_law_bag.nd rfl (.inl rfl) pe_int)
      (pss_cons (ps_for PassesOwn.never rfl (pi_range1 (by rfl) (b_range T) (pa_cons (pe_callB (call_min2 rfl) (by rfl) (b_min T) (by decide +kernel) (pa_cons pe_int (pa_cons (pe_callB call_len_seq (by rfl) (b_len T) PySem.boot_len (pa_cons (pv 0) pa_nil)) pa_nil))) pa_nil)) (pg_name (i := 3) sc_law_bag.nd rfl (.inl rfl))
      (pss_cons (ps_set (i := 4) sc_law_bag.nd rfl (.inl rfl) (pe_callB call_abs (by rfl) (b_abs T) (by decide +kernel) (pa_cons (pe_ix ix_list (pv 0) (pv 3) (fun _ _ => rfl)) pa_nil)))
      (pss_cons (ps_if (pt_cmpR op_ge (pv 4) (pe_op op_pow pe_int pe_int) (nomark _))
      (pss_one (ps_expr (pe_bm PySem.F.plainAttrs_list PySem.F.slot_list_append PySem.F.type_list_append mt_append (pv 1) (pa_cons (pv 4) pa_nil))))
      pss_nil)
      (pss_one (ps_set (i := 2) sc_law_bag.nd rfl (.inl rfl) (pe_op op_mod (pe_callTy call_int1 (by rfl) (b_int T) (by decide +kernel) (pa_cons (pe_op op_add (pe_op op_add (pe_op op_add (pe_op op_mulW (pv 2) pe_int) (pe_op op_mulW (pe_op op_mod (pe_callTy call_int1 (by rfl) (b_int T) (by decide +kernel) (pa_cons (pe_ix ix_list (pv 0) (pv 3) (fun _ _ => rfl)) pa_nil)) pe_int) pe_int)) pe_int) (pv 3)) pa_nil)) pe_int))))))
      (pss_one (ps_ret (pe_lst (pa_cons (pv 1) (pa_cons (pv 2) (pa_cons pe_int pa_nil))))))))), ?_⟩
    refine sq_asg ⟨by show 0 ≤ sizeLine; decide, fun g hg => ?_⟩
    have e0 : Same H (upd H g (.lst [])) := same_new hg
    refine sq_c ?_
    dsimp only
    have hr63 : (if ((ns.map V.int).length : Int) < 63 then ((ns.map V.int).length : Int) else 63) = (ns.length : Int) := by
      rw [List.length_map]
      by_cases hq : (ns.length : Int) < 63
      · rw [if_pos hq]
      · rw [if_neg hq]; omega
    refine ⟨_, rfl, a, _, rfl, .inl (Evl.ex_l e0 ha), _, _, rfl, ?_⟩
    rw [hr63]
    refine ⟨(ns.length : Int), rfl, by omega, by omega, ?_⟩
    rw [show ((ns.length : Int)).toNat = ns.length by omega]
    refine for_it (walk_range (lo := 0) (n := ns.length)) (fun i σ H' => (∃ x3 x4 seed, σ = [some (.ref a), some (.ref g), some (.int seed), x3, x4] ∧ 0 ≤ seed ∧ seed < 2147483647) ∧ Same H H' ∧ ∃ gs : List Int, H' g = some (.lst (gs.map V.int)) ∧ gs.length ≤ i) ?_ (fun _ _ _ _ _ => trivial) ?_ ?_
    · exact ⟨⟨_, _, 0, rfl, by omega, by omega⟩, e0, [], upd_same, Nat.le_refl _⟩
    · rintro i x σ _ H1 hi ⟨⟨x3, x4, seed, rfl, s0, s1⟩, e, gs, hgs, hgl⟩ ⟨rfl, rfl⟩
      have hx : (ns.map V.int)[i]? = some (.int ns[i]) := by rw [List.getElem?_map, List.getElem?_eq_getElem hi]; rfl
      have hix : atI (ns.map V.int) ((i : Nat) : Int) = some (.int ns[i]) := atI_nat hx
      refine gN ?_
      dsimp only
      rw [Int.zero_add]
      refine sq_asg ⟨_, rfl, _, rfl, _, _, _, _, rfl, rfl, Evl.ex_l e ha, hix, _, rfl, ?_⟩
      have hbig : CPow 10 18 := ⟨by decide, by decide, by decide⟩
      have hb0 : 0 ≤ ns[i] % 2147483587 ∧ ns[i] % 2147483587 < 2147483587 := ⟨Int.emod_nonneg _ (by decide), Int.emod_lt_of_pos _ (by decide)⟩
      have hi63 : i < 63 := by omega
      dsimp only
      generalize (if ns[i] < 0 then -ns[i] else ns[i]) = sz
      refine seqM (fun σ H' => σ = [some (.ref a), some (.ref g), some (.int seed), some (.int i), some (.int sz)] ∧ Same H H' ∧ ∃ gs : List Int, H' g = some (.lst (gs.map V.int)) ∧ gs.length ≤ i + 1) (fun Nx hNx => ?_) ?_
      · refine ⟨_, rfl, _, _, rfl, rfl, hbig, _, _, rfl, rfl, _, rfl, ?_⟩
        by_cases hq : (10 : Int) ^ (18 : Int).toNat ≤ sz
        · rw [decide_eq_true hq]
          refine iteT ?_
          refine ⟨_, rfl, .inl ⟨rfl, _, .of hgs⟩, _, rfl, _, _, _, rfl, rfl, hgs, ?_, ?_⟩
          · rw [List.length_map]; exact Nat.lt_of_le_of_lt (Nat.le_trans hgl (Nat.le_of_lt hi63)) (by decide)
          · exact hNx _ _ ⟨rfl, same_mut e hg, gs ++ [sz], by rw [List.map_append]; exact upd_same, by rw [List.length_append]; simp; omega⟩
        · rw [decide_eq_false hq]
          refine iteF ?_
          exact hNx _ _ ⟨rfl, e, gs, hgs, by omega⟩
      rintro σ H2 ⟨rfl, e2, gs2, hgs2, hgl2⟩
      have m1 : CMulW seed 69621 := wide_mul (a := 31) (b := 17) (by omega) (by decide) (by decide) (by decide) (by decide)
      have m2 : CMulW (ns[i] % 2147483587) 31 := wide_mul (a := 31) (b := 5) (by omega) (by decide) (by decide) (by decide) (by decide)
      refine ⟨_, rfl, _, _, rfl, rfl, m1, ?_⟩
      refine ⟨_, rfl, _, rfl, _, _, _, _, rfl, rfl, Evl.ex_l e2 ha, hix, .inl ⟨_, rfl, _, _, rfl, rfl, (show (0 : Int) < 2147483587 by decide), _, _, rfl, rfl, m2, _, _, rfl, rfl, _, _, rfl, rfl, _, rfl, _, _, rfl, rfl, .inl ⟨_, rfl, _, _, rfl, rfl, (show (0 : Int) < 2147483647 by decide), ?_⟩⟩⟩
      exact ⟨⟨_, _, _, rfl, Int.emod_nonneg _ (by decide), Int.emod_lt_of_pos _ (by decide)⟩, e2, gs2, hgs2, hgl2⟩
    · rintro σ H1 ⟨⟨x3, x4, seed, rfl, s0, s1⟩, e, gs, hgs, hgl⟩
      refine ⟨_, rfl, _, rfl, by show 3 ≤ sizeLine; decide, fun b hb => ?_⟩
      have hbg : b ≠ g := fun q => by rw [q] at hb; rw [hb] at hgs; cases hgs
      refine k b g _ (e.trans (same_new hb)) (e.free hb) hg hbg ⟨gs, seed, 0, upd_same, (same_new hb) _ _ hgs, by omega, s0, s1, Nat.le_refl _⟩
theorem sc_law_take : FnScope ["_law_bag_here", "_law_many", "_law_great", "_law_digit", "_law_value", "_law_mixed"] ["_law_bag_here", "_law_many"] (defScope s_law_take) := ⟨rfl, rfl, rfl, by decide +kernel, rfl, by decide +kernel, by decide +kernel⟩
def sp_law_take (K : PySem.W.Frag) : Sp := fun vs H Q _ => ∃ b g c m, vs = [.ref b, .int (m : Nat)] ∧ BagAt H b g c ∧ b ≠ g ∧ 0 < m ∧ m ≤ 1000 ∧ c ≤ 10000 ∧ ∀ r H', r < m → Kept2 b g H H' → BagAt H' b g (c + 1) → Q (.int (r : Nat)) H'
theorem ok_law_take (T : TT K mg) : Cal P w K mg base 1 "_law_take" (sp_law_take K) [] := by
  refine cal_of (f_law_take T) (g_law_take T) sc_law_take (fun _ _ _ _ _ _ us hl => match us, hl with | [_, _], _ => rfl) (fun vs H Q E h => ?_) (fun cdv A outer s H vs Q E hr h => ?_)
  · obtain ⟨b, g, c, m, rfl, hb, hne, m0, m1, c1, k⟩ := h; rfl
  · obtain ⟨b, g, c, m, rfl, hb, hne, m0, m1, c1, k⟩ := h
    refine ⟨_, (pss_cons (ps_set (i := 2) sc_law_take.nd rfl (.inl rfl) (pe_ix ix_list (pv 0) pe_int (fun _ _ => rfl)))
      (pss_cons (ps_asg (pe_op op_add (pe_ix ix_list (pv 0) pe_int (fun _ _ => rfl)) pe_int) (pg_sub (pv 0) pe_int set_list))
      (pss_cons (ps_if (pt_cmpR op_gt (pe_callB call_len_seq (by rfl) (b_len T) PySem.boot_len (pa_cons (pv 2) pa_nil)) pe_int (nomark _))
      (pss_cons (ps_set (i := 3) sc_law_take.nd rfl (.inl rfl) (pe_op op_mod (pe_callTy call_int1 (by rfl) (b_int T) (by decide +kernel) (pa_cons (pe_ix ix_list (pv 2) pe_int (fun _ _ => rfl)) pa_nil)) (pv 1)))
      (pss_cons (ps_asg (pe_op op_fdivW (pe_ix ix_list (pv 2) pe_int (fun _ _ => rfl)) (pv 1)) (pg_sub (pv 2) pe_int set_list))
      (pss_cons (ps_if (pt_cmpR op_eq (pe_ix ix_list (pv 2) pe_int (fun _ _ => rfl)) pe_int (nomark _))
      (pss_one (ps_expr (pe_bm PySem.F.plainAttrs_list PySem.F.slot_list_pop PySem.F.type_list_pop mt_popAt (pv 2) (pa_cons pe_int pa_nil))))
      pss_nil)
      (pss_one (ps_ret (pv 3))))))
      pss_nil)
      (pss_cons (ps_set (i := 4) sc_law_take.nd rfl (.inl rfl) (pe_op op_mod (pe_callTy call_int1 (by rfl) (b_int T) (by decide +kernel) (pa_cons (pe_op op_add (pe_op op_mulW (pe_ix ix_list (pv 0) pe_int (fun _ _ => rfl)) (pe_op op_add pe_int (pe_op op_mulW (pe_ix ix_list (pv 0) pe_int (fun _ _ => rfl)) (pe_ix ix_list (pv 0) pe_int (fun _ _ => rfl))))) (pe_op op_mulW (pe_ix ix_list (pv 0) pe_int (fun _ _ => rfl)) pe_int)) pa_nil)) pe_int))
      (pss_cons (ps_set (i := 5) sc_law_take.nd rfl (.inl rfl) (pe_op op_mod (pe_callTy call_int1 (by rfl) (b_int T) (by decide +kernel) (pa_cons (pe_op op_mulW (pv 4) (pe_op op_add pe_int (pe_op op_fdivW (pv 4) pe_int))) pa_nil)) pe_int))
      (pss_one (ps_ret (pe_op op_mod (pe_callTy call_int1 (by rfl) (b_int T) (by decide +kernel) (pa_cons (pe_op op_fdivW (pv 5) pe_int) pa_nil)) (pv 1))))))))), ?_⟩
    obtain ⟨gs, seed, n, h1, h2, h3, h4, h5, h6⟩ := hb
    have hm0 : (0 : Int) < (m : Int) := by omega
    refine sq_asg ⟨_, rfl, _, _, _, _, rfl, rfl, .of h1, rfl, ?_⟩
    refine ⟨_, rfl, _, _, _, _, rfl, rfl, .of h1, rfl, _, _, rfl, rfl, _, rfl, b, _, 2, 2, rfl, rfl, h1, rfl, ?_⟩
    have hb1 : (upd H b (.lst ([V.ref g, .int seed, .int (n : Nat)].set 2 (.int ((n : Nat) + 1))))) b = some (.lst [.ref g, .int seed, .int ((n + 1 : Nat))]) := upd_same
    have hg1 : (upd H b (.lst ([V.ref g, .int seed, .int (n : Nat)].set 2 (.int ((n : Nat) + 1))))) g = some (.lst (gs.map V.int)) := (upd_ne (Ne.symm hne)).trans h2
    have kp1 : Kept2 b g H (upd H b (.lst ([V.ref g, .int seed, .int (n : Nat)].set 2 (.int ((n : Nat) + 1))))) := fun x o hx n1 n2 => (upd_ne n1).trans hx
    generalize upd H b (.lst ([V.ref g, .int seed, .int (n : Nat)].set 2 (.int ((n : Nat) + 1)))) = H1 at hb1 hg1 kp1
    have kg : ∀ {H2 : Hp} {o : HO}, Kept2 b g H H2 → Kept2 b g H (upd H2 g o) := fun h x o hx n1 n2 => (upd_ne n2).trans (h x o hx n1 n2)
    cases gs with
    | nil =>
      refine ⟨_, rfl, g, _, rfl, .inl (.of hg1), _, _, rfl, rfl, _, rfl, iteF ?_⟩
      delta tNext
      dsimp only
      have hN : (((n + 1 : Nat) : Int)).natAbs < 2 ^ 14 := by omega
      have m1 : CMulW ((n + 1 : Nat) : Int) ((n + 1 : Nat) : Int) := wide_mul hN hN (by decide) (by decide) (by decide)
      have q1 := wide_lt hN hN
      have q2 : (48271 + ((n + 1 : Nat) : Int) * ((n + 1 : Nat) : Int)).natAbs < 2 ^ 29 := by
        have : (48271 + ((n + 1 : Nat) : Int) * ((n + 1 : Nat) : Int)).natAbs ≤ 48271 + (((n + 1 : Nat) : Int) * ((n + 1 : Nat) : Int)).natAbs := Int.natAbs_add_le _ _
        omega
      have m2 : CMulW seed (48271 + ((n + 1 : Nat) : Int) * ((n + 1 : Nat) : Int)) := wide_mul (a := 31) (by omega) q2 (by decide) (by decide) (by decide)
      have m3 : CMulW ((n + 1 : Nat) : Int) 7863 := wide_mul (b := 13) hN (by decide) (by decide) (by decide) (by decide)
      refine sq_asg ⟨_, rfl, _, _, _, _, rfl, rfl, .of hb1, rfl, _, rfl, _, _, _, _, rfl, rfl, .of hb1, rfl, _, rfl, _, _, _, _, rfl, rfl, .of hb1, rfl, _, _, rfl, rfl, m1, _, _, rfl, rfl, _, _, rfl, rfl, m2, _, rfl, _, _, _, _, rfl, rfl, .of hb1, rfl, _, _, rfl, rfl, m3, _, _, rfl, rfl, .inl ⟨_, rfl, _, _, rfl, rfl, (show (0 : Int) < 2147483629 by decide), ?_⟩⟩
      dsimp only
      have v0 := Int.emod_nonneg (seed * (48271 + ((n + 1 : Nat) : Int) * ((n + 1 : Nat) : Int)) + ((n + 1 : Nat) : Int) * 7863) (show (2147483629 : Int) ≠ 0 by decide)
      have v1 := Int.emod_lt_of_pos (seed * (48271 + ((n + 1 : Nat) : Int) * ((n + 1 : Nat) : Int)) + ((n + 1 : Nat) : Int) * 7863) (show (0 : Int) < 2147483629 by decide)
      generalize (seed * (48271 + ((n + 1 : Nat) : Int) * ((n + 1 : Nat) : Int)) + ((n + 1 : Nat) : Int) * 7863) % 2147483629 = vl at v0 v1 ⊢
      have d1 : CDivW vl 65536 := wide_div (b := 17) (by decide) (by decide) (by decide) (by decide)
      have d2 : (1 + vl / 65536).natAbs < 2 ^ 17 := by omega
      have m4 : CMulW vl (1 + vl / 65536) := wide_mul (a := 31) (by omega) d2 (by decide) (by decide) (by decide)
      refine sq_asg ⟨_, rfl, _, rfl, _, _, rfl, rfl, d1, _, _, rfl, rfl, _, _, rfl, rfl, m4, .inl ⟨_, rfl, _, _, rfl, rfl, (show (0 : Int) < 2147483647 by decide), ?_⟩⟩
      dsimp only
      generalize vl * (1 + vl / 65536) % 2147483647 = mx
      have d3 : CDivW mx 16 := wide_div (b := 5) (by decide) (by decide) (by decide) (by decide)
      refine ⟨_, rfl, _, _, rfl, rfl, d3, .inl ⟨_, rfl, _, rfl, _, _, rfl, rfl, hm0, ?_⟩⟩
      have r0 := Int.emod_nonneg (mx / 16) (show (m : Int) ≠ 0 by omega)
      have r1 := Int.emod_lt_of_pos (mx / 16) hm0
      obtain ⟨r, hr⟩ := Int.eq_ofNat_of_zero_le r0
      dsimp only
      rw [hr] at r1 ⊢
      exact k r H1 (by omega) kp1 ⟨[], seed, n + 1, hb1, hg1, by simp, h4, h5, by omega⟩
    | cons y gs =>
      refine ⟨_, rfl, g, _, rfl, .inl (.of hg1), _, _, rfl, rfl, _, rfl, ?_⟩
      rw [decide_eq_true (by simp)]
      refine iteT ?_
      refine sq_asg ⟨_, rfl, _, _, _, _, rfl, rfl, .of hg1, at_0, .inl ⟨_, rfl, _, rfl, _, _, rfl, rfl, hm0, ?_⟩⟩
      have r0 := Int.emod_nonneg y (show (m : Int) ≠ 0 by omega)
      have r1 := Int.emod_lt_of_pos y hm0
      obtain ⟨r, hr⟩ := Int.eq_ofNat_of_zero_le r0
      dsimp only
      rw [hr] at r1 ⊢
      have hmw : CDivW y (m : Int) := wide_div (b := 10) hm0 (by omega) (by decide) (by decide)
      refine ⟨_, rfl, _, _, _, _, rfl, rfl, .of hg1, at_0, _, rfl, _, _, rfl, rfl, hmw, _, rfl, g, _, 0, 0, rfl, rfl, hg1, by unfold ixN; rw [if_pos (by decide), if_pos (by simp)]; rfl, ?_⟩
      have hg2 : (upd H1 g (.lst (((y :: gs).map V.int).set 0 (.int (y / (m : Int)))))) g = some (.lst (V.int (y / (m : Int)) :: gs.map V.int)) := upd_same
      have hb2 : (upd H1 g (.lst (((y :: gs).map V.int).set 0 (.int (y / (m : Int)))))) b = some (.lst [.ref g, .int seed, .int ((n + 1 : Nat))]) := (upd_ne hne).trans hb1
      have kp2 := kg (o := .lst (((y :: gs).map V.int).set 0 (.int (y / (m : Int))))) kp1
      generalize upd H1 g (.lst (((y :: gs).map V.int).set 0 (.int (y / (m : Int))))) = H2 at hg2 hb2 kp2
      have hgl : gs.length + 1 ≤ 63 := h3
      dsimp only
      refine ⟨_, rfl, _, _, _, _, rfl, rfl, .of hg2, at_0, rfl, _, rfl, ?_⟩
      by_cases hq : V.int (y / (m : Int)) = V.int 0
      · rw [decide_eq_true hq]
        refine iteT ?_
        refine ⟨_, rfl, .inl ⟨rfl, _, .of hg2⟩, g, _, 0, 0, _, rfl, rfl, hg2, by decide, by decide, by simp [seqIndex?], rfl, ?_⟩
        refine ⟨_, rfl, ?_⟩
        exact k r _ (by omega) (kg kp2) ⟨gs, seed, n + 1, (upd_ne hne).trans hb2, upd_same, by omega, h4, h5, by omega⟩
      · rw [decide_eq_false hq]
        refine iteF ?_
        exact ⟨_, rfl, k r _ (by omega) kp2 ⟨y / (m : Int) :: gs, seed, n + 1, hb2, hg2, hgl, h4, h5, by omega⟩⟩
end
end K98
set_option Elab.async false
set_option linter.all false
set_option maxRecDepth 100000
set_option maxHeartbeats 4000000
namespace K98
open PySem PySem.Spec PyProof.Rows L2 Ru He6 TL
open C8 (Cal pe_c)
theorem Kept2.refl {b g : Addr} (H : Hp) : Kept2 b g H H := fun _ _ e _ _ => e
theorem Kept2.of {b g : Addr} {H H' : Hp} (e : Same H H') : Kept2 b g H H' := fun x o h _ _ => e x o h
theorem Kept2.trans {b g : Addr} {H H' H2 : Hp} (h : Kept2 b g H H') (k : Kept2 b g H' H2) : Kept2 b g H H2 := fun x o e n1 n2 => k x o (h x o e n1 n2) n1 n2
theorem Kept2.new {b g x : Addr} {o : HO} {H H' : Hp} (h : Kept2 b g H H') (hx : H x = none) : Kept2 b g H (upd H' x o) := fun y u e n1 n2 => (upd_ne (fun z => by rw [z, hx] at e; cases e)).trans (h y u e n1 n2)
theorem BagAt.le {H : Hp} {b g : Addr} {c d : Nat} (h : BagAt H b g c) (l : c ≤ d) : BagAt H b g d :=
  let ⟨gs, seed, n, h1, h2, h3, h4, h5, h6⟩ := h
  ⟨gs, seed, n, h1, h2, h3, h4, h5, Nat.le_trans h6 l⟩
theorem BagAt.b {H : Hp} {b g : Addr} {c : Nat} (h : BagAt H b g c) : ∃ xs, H b = some (.lst xs) := let ⟨_, _, _, h1, _⟩ := h; ⟨_, h1⟩
theorem BagAt.g {H : Hp} {b g : Addr} {c : Nat} (h : BagAt H b g c) : ∃ xs, H g = some (.lst xs) := let ⟨_, _, _, _, h1, _⟩ := h; ⟨_, h1⟩
theorem BagAt.mono {H H' : Hp} {b g : Addr} {c : Nat} (e : Same H H') (h : BagAt H b g c) : BagAt H' b g c :=
  let ⟨gs, seed, n, h1, h2, h3, h4, h5, h6⟩ := h
  ⟨gs, seed, n, e _ _ h1, e _ _ h2, h3, h4, h5, h6⟩
theorem BagAt.upd {H : Hp} {b g x : Addr} {o : HO} {c : Nat} (h : BagAt H b g c) (n1 : x ≠ b) (n2 : x ≠ g) : BagAt (upd H x o) b g c :=
  let ⟨gs, seed, n, h1, h2, h3, h4, h5, h6⟩ := h
  ⟨gs, seed, n, (upd_ne (Ne.symm n1)).trans h1, (upd_ne (Ne.symm n2)).trans h2, h3, h4, h5, h6⟩
theorem BagAt.nb {H : Hp} {b g x : Addr} {c : Nat} (h : BagAt H b g c) (hx : H x = none) : x ≠ b ∧ x ≠ g := by
  obtain ⟨_, h1⟩ := h.b
  obtain ⟨_, h2⟩ := h.g
  exact ⟨fun z => (by rw [z, h1] at hx; cases hx), fun z => (by rw [z, h2] at hx; cases hx)⟩
theorem Kept2.sl {H H' : Hp} {b g : Addr} {c : Nat} (k : Kept2 b g H H') (h : BagAt H b g c) : SameL H H' := fun x o e n => by
  obtain ⟨_, h1⟩ := h.b
  obtain ⟨_, h2⟩ := h.g
  refine k x o e (fun z => ?_) fun z => ?_
  · rw [z, h1] at e; cases e; exact n.elim
  · rw [z, h2] at e; cases e; exact n.elim
/-- a comprehension that draws from the bag, k draws at most for each item -/
theorem lc_mapB {J : It} {n : Nat} {G : Hp → Prop} {Y : Nat → Hp → V → Hp → Prop} {b g' : Addr} (c k : Nat) (w : Walk J n G Y) (R : Nat → V → Hp → Prop) (hR : ∀ i v H H', SameL H H' → R i v H → R i v H')
    {g : TG} {te : TE} {vs : List Nat} {σ : L2.St} {H1 : Hp} {D : Addr} {Qd : Hp → Prop} (hn : n ≤ sizeLine) (hD : H1 D = none) (hb : BagAt H1 b g' c) (hG : ∀ H, Kept2 b g' H1 H → G H)
    (hs : ∀ i x H H' (Z : VK), i < n → Kept2 b g' H1 H → BagAt H b g' (c + k * i) → Y i H x H' → (∀ y H4, R i y H4 → Kept2 b g' H H4 → BagAt H4 b g' (c + k * (i + 1)) → Z y H4) → g x (wipe σ vs) H' fun σ2 H2 => wipe σ2 vs = wipe σ vs ∧ te σ2 H2 Z)
    (hd : ∀ H acc, Kept2 b g' H1 H → BagAt H b g' (c + k * n) → H D = some (.lst acc) → acc.length = n → (∀ i v, acc[i]? = some v → R i v H) → Qd H) :
    ∃ W : Nat → Nat → Hp → Prop, (∃ m, W 0 m (upd H1 D (.lst []))) ∧ ∀ i m H, W i m H →
      (J.stop i H ∧ Qd H) ∨ (J.go i H ∧ ∃ Nx : Hp → Prop, (∀ H', Nx H' → ∃ m', m' < m ∧ W (i + 1) m' H') ∧ ∀ x H', J.yld i H x H' → g x (wipe σ vs) H' fun σ2 H2 => wipe σ2 vs = wipe σ vs ∧ tYes σ2 H2 fun b H3 =>
        if b = true then te σ2 H3 fun y H4 => ∃ acc, H4 D = some (.lst acc) ∧ acc.length < sizeLine ∧ Nx (upd H4 D (.lst (acc ++ [y]))) else Nx H3) := by
  obtain ⟨nb, ng⟩ := hb.nb hD
  refine lc_it w (fun i H => Kept2 b g' H1 H ∧ BagAt H b g' (c + k * i) ∧ ∃ acc, H D = some (.lst acc) ∧ acc.length = i ∧ ∀ j v, acc[j]? = some v → R j v H) ⟨.of (same_new hD), hb.mono (same_new hD), [], upd_same, rfl, fun j v e => by cases e⟩ (fun i H _ p => hG H p.1) ?_ (fun H ⟨e, eb, acc, h1, h2, h3⟩ => hd H acc e eb h1 h2 h3)
  rintro i x H H' hi ⟨e, eb, acc, h1, h2, h3⟩ y
  refine hs i x H H' _ hi e eb y fun z H4 r q q2 => ?_
  have hD4 := q _ _ h1 nb ng
  refine ⟨acc, hD4, by omega, (e.trans q).new hD, q2.upd nb ng, acc ++ [z], upd_same, by simp [h2], fun j v ej => ?_⟩
  have sl : SameL H4 (upd H4 D (.lst (acc ++ [z]))) := (SameL.refl _).mut hD4
  by_cases c : j < acc.length
  · rw [List.getElem?_append_left c] at ej
    exact hR _ _ _ _ ((q.sl eb).trans sl) (h3 j v ej)
  · rw [List.getElem?_append_right (by omega)] at ej
    have : j - acc.length = 0 := by
      by_cases z0 : j - acc.length = 0
      · exact z0
      · rw [List.getElem?_eq_none (by simp; omega)] at ej; cases ej
    rw [this] at ej
    simp at ej
    subst ej
    rw [show j = i by omega]
    exact hR _ _ _ _ sl r
theorem chain_of {K : PySem.W.Frag} {H : Hp} {p : Hop → Prop} : ∀ {acc : List V}, (∀ (i : Nat) (v : V), acc[i]? = some v → ∃ h, Dp K H v (dR h) ∧ p h) → ∃ ch : Chain, ch.length = acc.length ∧ DpAll K H acc (ch.map dR) ∧ ∀ h ∈ ch, p h
  | [], _ => ⟨[], rfl, .nil, fun _ h => nomatch h⟩
  | v :: vs, h => by
    obtain ⟨x, h1, h2⟩ := h 0 v rfl
    obtain ⟨ch, e1, e2, e3⟩ := chain_of (acc := vs) (p := p) fun i u hi => h (i + 1) u hi
    refine ⟨x :: ch, by simp [e1], .cons h1 e2, fun y hy => ?_⟩
    rcases List.mem_cons.mp hy with q | q
    · rw [q]; exact h2
    · exact e3 y q
/-- a profile that is no list of the bag's -/
def ProfL (K : PySem.W.Frag) (H : Hp) (p : Addr) (c : Chain) : Prop := ∃ xs, H p = some (.lst xs) ∧ DpAll K H xs (c.map dR)
theorem ProfL.at {K : PySem.W.Frag} {H : Hp} {p : Addr} {c : Chain} (h : ProfL K H p c) : ProfAt K H p c := let ⟨xs, h1, h2⟩ := h; ⟨xs, .of h1, h2⟩
def ProfB (K : PySem.W.Frag) (H : Hp) (b g p : Addr) (c : Chain) : Prop := ProfL K H p c ∧ p ≠ b ∧ p ≠ g
def hopIn (m : Int) (h : Hop) : Prop := 0 ≤ h.lim ∧ h.lim ≤ m
section
variable {P : Program} {w : World} {K : PySem.W.Frag} {mg : Str → Option Value} {base : Heap}
theorem sc_law_profile : FnScope ["_law_bag_here", "_law_count", "_law_k"] ["_law_bag_here"] (defScope s_law_profile) := ⟨rfl, rfl, rfl, by decide +kernel, rfl, by decide +kernel, by decide +kernel⟩
def sp_law_profile (K : PySem.W.Frag) : Sp := fun vs H Q _ => ∃ b g c, vs = [.ref b] ∧ BagAt H b g c ∧ b ≠ g ∧ c ≤ 5000 ∧ ∀ p ch H', (1 ≤ ch.length ∧ ch.length ≤ 2) → (∀ h ∈ ch, hopIn (4 - ch.length) h) → Kept2 b g H H' → BagAt H' b g (c + 7) → H p = none → ProfL K H' p ch → Q (.ref p) H'
theorem ok_law_profile (T : TT K mg) : Cal P w K mg base 2 "_law_profile" (sp_law_profile K) [] := by
  refine cal_of (f_law_profile T) (g_law_profile T) sc_law_profile (fun _ _ _ _ _ _ us hl => match us, hl with | [_], _ => rfl) (fun vs H Q E h => ?_) (fun cdv A outer s H vs Q E hr h => ?_)
  · obtain ⟨b, g, c, rfl, hb, hne, hc, k⟩ := h; rfl
  · obtain ⟨b, g, c, rfl, hb, hne, hc, k⟩ := h
    refine ⟨_, (pss_cons (ps_set (i := 1) sc_law_profile.nd rfl (.inr rfl) (pe_op op_add pe_int (pe_callTy call_int1 (by rfl) (b_int T) (by decide +kernel) (pa_cons (pe_cmpR op_eq (pe_c (ok_law_take T) hr (by decide) (by rfl) (pa_cons (pv 0) (pa_cons pe_int pa_nil))) pe_int (nomark _)) pa_nil))))
      (pss_one (ps_ret (pe_lc (own := [("_law_k", 2)]) (g := (gName 2)) (tt := tYes) rfl sc_law_profile.nd (pi_range1 (by rfl) (b_range T) (pa_cons (pv 1) pa_nil)) (blkOk_by (own := [("_law_k", 2)]) (N := ["_law_bag_here", "_law_count", "_law_k"]) (sc := defScope s_law_profile) (by decide +kernel)) (fun _ _ _ _ _ => (pg_name (i := 2) sc_law_profile.nd rfl (.inl rfl))) (fun _ _ _ _ _ => pts_nil) (fun _ _ _ _ _ => (pe_tup (pa_cons (pe_c (ok_law_take T) hr (by decide) (by rfl) (pa_cons (pv 0) (pa_cons (pe_op op_sub pe_int (pv 1)) pa_nil))) (pa_cons (pe_cmpR op_ne (pe_c (ok_law_take T) hr (by decide) (by rfl) (pa_cons (pv 0) (pa_cons pe_int pa_nil))) pe_int (nomark _)) (pa_cons (pe_cmpR op_eq (pe_c (ok_law_take T) hr (by decide) (by rfl) (pa_cons (pv 0) (pa_cons pe_int pa_nil))) pe_int (nomark _)) pa_nil))))))))), ?_⟩
    refine ⟨_, rfl, b, g, c, 3, rfl, hb, hne, by decide, by decide, by omega, fun r H1 hr1 k1 b1 => ?_⟩
    refine ⟨rfl, .inr ⟨_, rfl, _, _, rfl, rfl, ?_⟩⟩
    obtain ⟨n, en, n1, n2⟩ : ∃ n : Nat, (1 : Int) + (if decide (V.int (r : Nat) = V.int 1) = true then 1 else 0) = (n : Int) ∧ 1 ≤ n ∧ n ≤ 2 := by
      by_cases q : V.int (r : Nat) = V.int 1
      · exact ⟨2, by rw [decide_eq_true q]; rfl, by decide, by decide⟩
      · exact ⟨1, by rw [decide_eq_false q]; rfl, by decide, by decide⟩
    refine gN ?_
    dsimp only
    rw [en]
    refine ⟨_, rfl, _, rfl, by omega, by omega, fun D hD => ?_⟩
    rw [show ((n : Int)).toNat = n by omega]
    have nbD := b1.nb hD
    refine lc_mapB (c + 1) 3 walk_range (fun i v H' => ∃ h, Dp K H' v (dR h) ∧ hopIn (4 - (n : Int)) h) (fun i v H1 H2 e ⟨h, d, q⟩ => ⟨h, Dp.monoL e _ _ rfl d, q⟩) (Nat.le_trans n2 (by decide)) hD b1 (fun _ _ => trivial) ?_ ?_
    · rintro i x H2 H3 Z hi e be ⟨rfl, rfl⟩ kz
      have hm : (5 : Int) - (n : Int) = ((5 - n : Nat) : Int) := by omega
      refine ⟨rfl, _, rfl, _, rfl, _, _, rfl, rfl, ?_⟩
      dsimp only
      rw [hm]
      refine ⟨b, g, _, 5 - n, rfl, be, hne, by omega, by omega, by omega, fun r1 H4 hr1' k4 b4 => ?_⟩
      refine ⟨_, rfl, b, g, _, 4, rfl, b4, hne, by decide, by decide, by omega, fun r2 H5 hr2 k5 b5 => ?_⟩
      refine ⟨rfl, _, rfl, b, g, _, 3, rfl, b5, hne, by decide, by decide, by omega, fun r3 H6 hr3 k6 b6 => ?_⟩
      refine ⟨rfl, by show 3 ≤ sizeLine; decide, fun t ht => ?_⟩
      exact kz _ _ ⟨⟨(r1 : Int), !decide (V.int (r2 : Nat) = V.int 1), decide (V.int (r3 : Nat) = V.int 1)⟩, .tup (.of upd_same) (.cons (.int _) (.cons (.bl _) (.cons (.bl _) .nil))), by show (0 : Int) ≤ (r1 : Int); omega, by show (r1 : Int) ≤ 4 - (n : Int); omega⟩ (((k4.trans k5).trans k6).trans (.of (same_new ht))) ((b6.mono (same_new ht)).le (by omega))
    intro H2 acc e2 b2 hDacc hlacc hR
    obtain ⟨ch, l1, l2, l3⟩ := chain_of hR
    have hl : ch.length = n := l1.trans hlacc
    exact k D ch H2 (by omega) (fun h hh => by rw [hl]; exact l3 h hh) (k1.trans e2) (b2.le (by omega)) (by
      cases q : H D with
      | none => rfl
      | some u =>
        obtain ⟨q1, q2⟩ := nbD
        rw [k1 _ _ q q1 q2] at hD; cases hD) ⟨acc, hDacc, l2⟩
end
end K98
set_option Elab.async false
set_option linter.all false
set_option maxRecDepth 100000
set_option maxHeartbeats 4000000
namespace K98
open PySem PySem.Spec PyProof.Rows L2 Ru He6 TL
open C8 (Cal pe_c)
def chOk (ch : Chain) : Prop := 1 ≤ ch.length ∧ ch.length ≤ 2 ∧ ∀ h ∈ ch, hopIn 3 h
theorem DpAll.set' {K : PySem.W.Frag} {H : Hp} {v : V} {h : Hop} (d : Dp K H v (dR h)) : ∀ {xs : List V} {ch : Chain} (i : Nat), DpAll K H xs (ch.map dR) → DpAll K H (xs.set i v) ((ch.set i h).map dR)
  | [], [], _, x => x
  | [], _ :: _, _, x => nomatch x
  | _ :: _, [], _, x => nomatch x
  | y :: ys, c :: ch, 0, .cons h1 h2 => .cons d h2
  | y :: ys, c :: ch, i + 1, .cons h1 h2 => .cons h1 (DpAll.set' d i h2)
theorem chOk.set {ch : Chain} {h : Hop} {i : Nat} (k : chOk ch) (hh : hopIn 3 h) : chOk (ch.set i h) :=
  ⟨by rw [List.length_set]; exact k.1, by rw [List.length_set]; exact k.2.1, fun x hx => by
    rcases List.mem_or_eq_of_mem_set hx with q | q
    · exact k.2.2 x q
    · rw [q]; exact hh⟩
theorem noL_ch (ch : Chain) : ∀ d ∈ ch.map dR, noL d = true := fun d hd => by
  obtain ⟨x, _, rfl⟩ := List.mem_map.mp hd
  rfl
theorem Kept2.free {b g x : Addr} {c : Nat} {H H' : Hp} (k : Kept2 b g H H') (h : BagAt H' b g c) (hx : H' x = none) : H x = none := by
  obtain ⟨n1, n2⟩ := h.nb hx
  cases z : H x with
  | none => rfl
  | some u => rw [k _ _ z n1 n2] at hx; cases hx
section
variable {P : Program} {w : World} {K : PySem.W.Frag} {mg : Str → Option Value} {base : Heap}
/-- the other profile while it is made -/
def OthAt (K : PySem.W.Frag) (b g : Addr) (H H' : Hp) (q : Addr) (c : Nat) (ch : Chain) : Prop := Kept2 b g H H' ∧ BagAt H' b g c ∧ H q = none ∧ chOk ch ∧ ∃ xs, H' q = some (.lst xs) ∧ DpAll K H' xs (ch.map dR)
theorem sc_law_other : FnScope ["_law_bag_here", "_law_profile_here", "_law_way", "_law_spot", "_law_row", "_law_other_here"] ["_law_bag_here", "_law_profile_here"] (defScope s_law_other) := ⟨rfl, rfl, rfl, by decide +kernel, rfl, by decide +kernel, by decide +kernel⟩
def sp_law_other (K : PySem.W.Frag) : Sp := fun vs H Q _ => ∃ b g c p ch, vs = [.ref b, .ref p] ∧ BagAt H b g c ∧ b ≠ g ∧ c ≤ 4000 ∧ ProfB K H b g p ch ∧ chOk ch ∧ ∀ q ch' H', OthAt K b g H H' q (c + 20) ch' → Q (.ref q) H'
theorem ok_law_other (T : TT K mg) : Cal P w K mg base 3 "_law_other" (sp_law_other K) [] := by
  refine cal_of (f_law_other T) (g_law_other T) sc_law_other (fun _ _ _ _ _ _ us hl => match us, hl with | [_, _], _ => rfl) (fun vs H Q E h => ?_) (fun cdv A outer s H vs Q E hr h => ?_)
  · obtain ⟨b, g, c, p, ch, rfl, hb, hne, hc, ⟨⟨ps, hps, hpa⟩, pb, pg⟩, hch, k⟩ := h; rfl
  · obtain ⟨b, g, c, p, ch, rfl, hb, hne, hc, ⟨⟨ps, hps, hpa⟩, pb, pg⟩, hch, k⟩ := h
    refine ⟨_, (pss_cons (ps_set (i := 2) sc_law_other.nd rfl (.inl rfl) (pe_c (ok_law_take T) hr (by decide) (by rfl) (pa_cons (pv 0) (pa_cons pe_int pa_nil))))
      (pss_cons (ps_set (i := 3) sc_law_other.nd rfl (.inl rfl) (pe_c (ok_law_take T) hr (by decide) (by rfl) (pa_cons (pv 0) (pa_cons (pe_callB call_len_seq (by rfl) (b_len T) PySem.boot_len (pa_cons (pv 1) pa_nil)) pa_nil))))
      (pss_cons (ps_set (i := 4) sc_law_other.nd rfl (.inl rfl) (pe_ix ix_list (pv 1) (pv 3) (fun _ _ => rfl)))
      (pss_cons (ps_set (i := 5) sc_law_other.nd rfl (.inl rfl) (pe_callTy call_list_of (by rfl) (b_list T) (by decide +kernel) (pa_cons (pv 1) pa_nil)))
      (pss_cons (ps_if (pt_cmpR op_eq (pv 2) pe_int (nomark _))
      (pss_one (ps_asg (pe_tup (pa_cons (pe_c (ok_law_take T) hr (by decide) (by rfl) (pa_cons (pv 0) (pa_cons pe_int pa_nil))) (pa_cons (pe_ix ix_tup (pv 4) pe_int (fun _ _ => rfl)) (pa_cons (pe_ix ix_tup (pv 4) pe_int (fun _ _ => rfl)) pa_nil)))) (pg_sub (pv 5) (pv 3) set_list)))
      pss_nil)
      (pss_cons (ps_if (pt_cmpR op_eq (pv 2) pe_int (nomark _))
      (pss_one (ps_asg (pe_tup (pa_cons (pe_ix ix_tup (pv 4) pe_int (fun _ _ => rfl)) (pa_cons (pe_not (pe_ix ix_tup (pv 4) pe_int (fun _ _ => rfl))) (pa_cons (pe_ix ix_tup (pv 4) pe_int (fun _ _ => rfl)) pa_nil)))) (pg_sub (pv 5) (pv 3) set_list)))
      pss_nil)
      (pss_cons (ps_if (pt_cmpR op_eq (pv 2) pe_int (nomark _))
      (pss_one (ps_asg (pe_tup (pa_cons (pe_ix ix_tup (pv 4) pe_int (fun _ _ => rfl)) (pa_cons (pe_ix ix_tup (pv 4) pe_int (fun _ _ => rfl)) (pa_cons (pe_not (pe_ix ix_tup (pv 4) pe_int (fun _ _ => rfl))) pa_nil)))) (pg_sub (pv 5) (pv 3) set_list)))
      pss_nil)
      (pss_cons (ps_if (PW.pt (pw_and (pt_cmpR op_eq (pv 2) pe_int (nomark _)) (pw_and1 (pt_cmpR op_eq (pe_callB call_len_seq (by rfl) (b_len T) PySem.boot_len (pa_cons (pv 1) pa_nil)) pe_int (nomark _)))))
      (pss_one (ps_set (i := 5) sc_law_other.nd rfl (.inl rfl) (pe_op op_cat (pv 1) (pe_lst (pa_cons (pe_tup (pa_cons (pe_c (ok_law_take T) hr (by decide) (by rfl) (pa_cons (pv 0) (pa_cons pe_int pa_nil))) (pa_cons (pe_cmpR op_eq (pe_c (ok_law_take T) hr (by decide) (by rfl) (pa_cons (pv 0) (pa_cons pe_int pa_nil))) pe_int (nomark _)) (pa_cons (pe_cmpR op_eq (pe_c (ok_law_take T) hr (by decide) (by rfl) (pa_cons (pv 0) (pa_cons pe_int pa_nil))) pe_int (nomark _)) pa_nil)))) pa_nil)))))
      pss_nil)
      (pss_cons (ps_if (pt_cmpR op_eq (pv 2) pe_int (nomark _))
      (pss_one (ps_set (i := 5) sc_law_other.nd rfl (.inl rfl) (pe_c (ok_law_profile T) hr (by decide) (by rfl) (pa_cons (pv 0) pa_nil))))
      pss_nil)
      (pss_cons (ps_if (PW.pt (pw_and (pt_cmpR op_eq (pv 2) pe_int (nomark _)) (pw_and1 (pt_cmpR op_eq (pe_callB call_len_seq (by rfl) (b_len T) PySem.boot_len (pa_cons (pv 1) pa_nil)) pe_int (nomark _)))))
      (pss_one (ps_set (i := 5) sc_law_other.nd rfl (.inl rfl) (pe_op op_cat (pe_lst (pa_cons (pe_tup (pa_cons pe_int (pa_cons pe_bl (pa_cons (pe_cmpR op_eq (pe_c (ok_law_take T) hr (by decide) (by rfl) (pa_cons (pv 0) (pa_cons pe_int pa_nil))) pe_int (nomark _)) pa_nil)))) pa_nil)) (pv 1))))
      pss_nil)
      (pss_one (ps_ret (pv 5))))))))))))), ?_⟩
    have hpl := prof_len hpa
    refine sq_asg ?_
    refine ⟨_, rfl, b, g, c, 8, rfl, hb, hne, by decide, by decide, by omega, fun way H1 hw k1 b1 => ?_⟩
    have psk : ∀ {H'}, Kept2 b g H H' → H' p = some (.lst ps) := fun {H'} k => k _ _ hps pb pg
    have pda : ∀ {H'}, Kept2 b g H H' → DpAll K H' ps (ch.map dR) := fun {H'} k => Dp.monoLs (k.sl hb) _ _ (noLs_all (noL_ch ch)) hpa
    dsimp only
    refine sq_asg ?_
    refine ⟨_, rfl, _, rfl, p, _, rfl, .inl (.of (psk k1)), b, g, _, ps.length, rfl, b1, hne, by have := hch.1; omega, by have := hch.2.1; omega, by omega, fun spot H2 hsp k2 b2 => ?_⟩
    have k02 := k1.trans k2
    dsimp only
    refine sq_asg ?_
    have hsc : spot < ch.length := by omega
    obtain ⟨pr, hpr, hpt⟩ := prof_get hpa hsc
    refine ⟨_, rfl, _, rfl, _, _, _, _, rfl, rfl, .of (psk k02), atI_nat hpr, ?_⟩
    dsimp only
    refine sq_asg ?_
    refine ⟨_, rfl, p, _, rfl, .inl (.of (psk k02)), fun q hq => ?_⟩
    dsimp only
    have kq : ∀ {H'}, Kept2 b g H H' → SqT K H' pr [.int ch[spot].lim, .bl ch[spot].tells, .bl ch[spot].dates] := fun {H'} k => by
      have sl := k.sl hb
      rcases hpt with (h | ⟨o, h⟩) | h
      · exact .inl (.inl (sl _ _ h trivial))
      · exact .inl (.inr ⟨o, sl _ _ h trivial⟩)
      · exact .inr h
    have hq0 : H q = none := by
      obtain ⟨q1, q2⟩ := b2.nb hq
      cases z : H q with
      | none => rfl
      | some u => rw [k02 _ _ z q1 q2] at hq; cases hq
    have kn := k02.trans (.of (same_new (o := .lst ps) hq))
    have o0 : OthAt K b g H (upd H2 q (.lst ps)) q (c + 2) ch := ⟨kn, b2.mono (same_new hq), hq0, hch, ps, upd_same, pda kn⟩
    generalize upd H2 q (.lst ps) = H3 at o0
    have hlim := hch.2.2 _ (List.getElem_mem hsc)
    have put : ∀ {H4 H5 : Hp} {q : Addr} {ch' : Chain} {m j : Nat} {v : V} {h : Hop}, OthAt K b g H H4 q m ch' → Kept2 b g H4 H5 → BagAt H5 b g j → SameL H4 H5 → Dp K H5 v (dR h) → hopIn 3 h → spot < ch'.length → ∃ xs, H5 q = some (.lst xs) ∧ ixN xs.length (spot : Int) = some spot ∧ OthAt K b g H (upd H5 q (.lst (xs.set spot v))) q j (ch'.set spot h) := fun {H4 H5 q ch' m j v h} o k5 b5 sl d hh hs => by
      obtain ⟨k4, b4, q0, c4, xs, hx, dx⟩ := o
      obtain ⟨n1, n2⟩ := hb.nb q0
      have hx5 := k5 _ _ hx n1 n2
      have hl : xs.length = ch'.length := prof_len dx
      refine ⟨xs, hx5, ?_, (k4.trans k5).new q0, b5.upd n1 n2, q0, c4.set hh, xs.set spot v, upd_same, ?_⟩
      · unfold ixN
        rw [if_pos (by omega), if_pos (by omega)]
        rfl
      · have sl2 : SameL H5 (upd H5 q (.lst (xs.set spot v))) := (SameL.refl _).mut hx5
        exact DpAll.set' (Dp.monoL sl2 _ _ rfl d) spot (Dp.monoLs (sl.trans sl2) _ _ (noLs_all (noL_ch ch')) dx)
    refine seqM (t := tIfS _ _ _) (fun σ H' => ∃ q' ch', σ = [some (.ref b), some (.ref p), some (.int (way : Nat)), some (.int (spot : Nat)), some (.ref pr), some (.ref q')] ∧ OthAt K b g H H' q' (c + 3) ch' ∧ ch'.length = ch.length) (fun Nx hNx => ?_) ?_
    · refine ⟨_, rfl, rfl, _, rfl, ?_⟩
      by_cases hw : V.int (way : Nat) = V.int 1
      · rw [decide_eq_true hw]
        refine iteT ?_
        refine ⟨_, rfl, b, g, _, 3, rfl, o0.2.1, hne, by decide, by decide, by omega, fun r H4 hr k4 b4 => ?_⟩
        have kr := kq (o0.1.trans k4)
        refine ⟨_, rfl, _, _, _, _, rfl, rfl, kr, rfl, _, rfl, _, _, _, _, rfl, rfl, kr, rfl, by show 3 ≤ sizeLine; decide, fun t ht => ?_⟩
        obtain ⟨xs, hx, hix, ho⟩ := put (v := .ref t) (h := ⟨(r : Int), ch[spot].tells, ch[spot].dates⟩) o0 (k4.trans (.of (same_new ht))) (b4.mono (same_new ht)) ((k4.sl o0.2.1).trans (SameL.of (same_new ht))) (.tup (.of upd_same) (.cons (.int _) (.cons (.bl _) (.cons (.bl _) .nil)))) ⟨by show (0 : Int) ≤ (r : Int); omega, by show (r : Int) ≤ 3; omega⟩ hsc
        exact ⟨_, rfl, _, rfl, q, xs, _, _, rfl, rfl, hx, hix, hNx _ _ ⟨q, _, rfl, ho, by rw [List.length_set]⟩⟩
      · rw [decide_eq_false hw]
        refine iteF ?_
        exact hNx _ _ ⟨q, ch, rfl, ⟨o0.1, o0.2.1.le (by omega), o0.2.2⟩, rfl⟩
    rintro σ H4 ⟨q4, ch4, rfl, o4, l4⟩
    refine seqM (t := tIfS _ _ _) (fun σ H' => ∃ q' ch', σ = [some (.ref b), some (.ref p), some (.int (way : Nat)), some (.int (spot : Nat)), some (.ref pr), some (.ref q')] ∧ OthAt K b g H H' q' (c + 3) ch' ∧ ch'.length = ch.length) (fun Nx hNx => ?_) ?_
    · refine ⟨_, rfl, rfl, _, rfl, ?_⟩
      by_cases hw : V.int (way : Nat) = V.int 2
      · rw [decide_eq_true hw]
        refine iteT ?_
        have kr := kq o4.1
        refine ⟨_, rfl, _, _, _, _, rfl, rfl, kr, rfl, _, rfl, _, _, _, _, rfl, rfl, kr, rfl, _, rfl, _, rfl, _, _, _, _, rfl, rfl, kr, rfl, by show 3 ≤ sizeLine; decide, fun t ht => ?_⟩
        obtain ⟨xs, hx, hix, ho⟩ := put (v := .ref t) (h := ⟨ch[spot].lim, !ch[spot].tells, ch[spot].dates⟩) o4 (.of (same_new ht)) (o4.2.1.mono (same_new ht)) (SameL.of (same_new ht)) (.tup (.of upd_same) (.cons (.int _) (.cons (.bl _) (.cons (.bl _) .nil)))) hlim (by omega)
        exact ⟨_, rfl, _, rfl, _, xs, _, _, rfl, rfl, hx, hix, hNx _ _ ⟨q4, _, rfl, ho, by rw [List.length_set]; exact l4⟩⟩
      · rw [decide_eq_false hw]
        refine iteF ?_
        exact hNx _ _ ⟨q4, ch4, rfl, o4, l4⟩
    rintro σ H5 ⟨q5, ch5, rfl, o5, l5⟩
    refine seqM (t := tIfS _ _ _) (fun σ H' => ∃ q' ch', σ = [some (.ref b), some (.ref p), some (.int (way : Nat)), some (.int (spot : Nat)), some (.ref pr), some (.ref q')] ∧ OthAt K b g H H' q' (c + 3) ch' ∧ ch'.length = ch.length) (fun Nx hNx => ?_) ?_
    · refine ⟨_, rfl, rfl, _, rfl, ?_⟩
      by_cases hw : V.int (way : Nat) = V.int 3
      · rw [decide_eq_true hw]
        refine iteT ?_
        have kr := kq o5.1
        refine ⟨_, rfl, _, _, _, _, rfl, rfl, kr, rfl, _, rfl, _, _, _, _, rfl, rfl, kr, rfl, _, rfl, _, _, _, _, rfl, rfl, kr, rfl, _, rfl, by show 3 ≤ sizeLine; decide, fun t ht => ?_⟩
        obtain ⟨xs, hx, hix, ho⟩ := put (v := .ref t) (h := ⟨ch[spot].lim, ch[spot].tells, !ch[spot].dates⟩) o5 (.of (same_new ht)) (o5.2.1.mono (same_new ht)) (SameL.of (same_new ht)) (.tup (.of upd_same) (.cons (.int _) (.cons (.bl _) (.cons (.bl _) .nil)))) hlim (by omega)
        exact ⟨_, rfl, _, rfl, _, xs, _, _, rfl, rfl, hx, hix, hNx _ _ ⟨q5, _, rfl, ho, by rw [List.length_set]; exact l5⟩⟩
      · rw [decide_eq_false hw]
        refine iteF ?_
        exact hNx _ _ ⟨q5, ch5, rfl, o5, l5⟩
    rintro σ H6 ⟨q6, ch6, rfl, o6, l6⟩
    have hlen1 : ∀ {n : Nat}, decide (V.int (n : Nat) = V.int 1) = true → n = 1 := fun {n} h => by
      have := of_decide_eq_true h
      injection this with z
      omega
    refine seqM (t := tIfS _ _ _) (fun σ H' => ∃ q' ch', σ = [some (.ref b), some (.ref p), some (.int (way : Nat)), some (.int (spot : Nat)), some (.ref pr), some (.ref q')] ∧ OthAt K b g H H' q' (c + 6) ch') (fun Nx hNx => ?_) ?_
    · have no : Nx [some (.ref b), some (.ref p), some (.int (way : Nat)), some (.int (spot : Nat)), some (.ref pr), some (.ref q6)] H6 := hNx _ _ ⟨q6, ch6, rfl, o6.1, o6.2.1.le (by omega), o6.2.2⟩
      refine ⟨_, rfl, rfl, _, rfl, ?_⟩
      cases hw : decide (V.int (way : Nat) = V.int 4) with
      | false =>
        refine iteF ?_
        exact no
      | true =>
        refine iteT ⟨_, rfl, p, _, rfl, .inl (.of (psk o6.1)), rfl, _, rfl, ?_⟩
        cases hn : decide (V.int (ps.length : Nat) = V.int 1) with
        | false =>
          refine iteF ?_
          exact no
        | true =>
          have hl1 := hlen1 hn
          refine iteT ?_
          refine ⟨_, rfl, _, rfl, b, g, _, 3, rfl, o6.2.1, hne, by decide, by decide, by omega, fun r1 H7 hr1 k7 b7 => ?_⟩
          refine ⟨_, rfl, b, g, _, 2, rfl, b7, hne, by decide, by decide, by omega, fun r2 H8 hr2 k8 b8 => ?_⟩
          refine ⟨rfl, _, rfl, b, g, _, 2, rfl, b8, hne, by decide, by decide, by omega, fun r3 H9 hr3 k9 b9 => ?_⟩
          refine ⟨rfl, by show 3 ≤ sizeLine; decide, fun t ht => ⟨by show 1 ≤ sizeLine; decide, fun nl hnl => ?_⟩⟩
          have k69 := ((o6.1.trans k7).trans k8).trans k9
          have eT := same_new (o := .tup [.int (r1 : Nat), .bl (decide (V.int (r2 : Nat) = V.int 1)), .bl (decide (V.int (r3 : Nat) = V.int 1))]) ht
          have eL := same_new (o := .lst [.ref t]) hnl
          have kk := (k69.trans (.of eT)).trans (.of eL)
          refine ⟨p, nl, ps, [.ref t], rfl, rfl, psk kk, upd_same, ?_, fun q7 hq7 => ?_⟩
          · rw [hl1]; show 1 + 1 ≤ sizeLine; decide
          have eQ := same_new (o := .lst (ps ++ [.ref t])) hq7
          have bb := ((b9.mono eT).mono eL)
          refine hNx _ _ ⟨q7, ch ++ [⟨(r1 : Int), decide (V.int (r2 : Nat) = V.int 1), decide (V.int (r3 : Nat) = V.int 1)⟩], rfl, kk.trans (.of eQ), (bb.mono eQ).le (by omega), kk.free bb hq7, ⟨by simp, by rw [List.length_append]; simp; omega, fun h hh => ?_⟩, _, upd_same, ?_⟩
          · rcases List.mem_append.mp hh with z | z
            · exact hch.2.2 h z
            · rw [List.mem_singleton.mp z]; exact ⟨by show (0 : Int) ≤ (r1 : Int); omega, by show (r1 : Int) ≤ 3; omega⟩
          · rw [List.map_append]
            exact DpAll.append (pda (kk.trans (.of eQ))) (.cons (Dp.mono (eL.trans eQ) _ _ (.tup (.of upd_same) (.cons (.int _) (.cons (.bl _) (.cons (.bl _) .nil))))) .nil)
    rintro σ H7 ⟨q7, ch7, rfl, o7⟩
    refine seqM (t := tIfS _ _ _) (fun σ H' => ∃ q' ch', σ = [some (.ref b), some (.ref p), some (.int (way : Nat)), some (.int (spot : Nat)), some (.ref pr), some (.ref q')] ∧ OthAt K b g H H' q' (c + 13) ch') (fun Nx hNx => ?_) ?_
    · refine ⟨_, rfl, rfl, _, rfl, ?_⟩
      cases hw : decide (V.int (way : Nat) = V.int 5) with
      | false =>
        refine iteF ?_
        exact hNx _ _ ⟨q7, ch7, rfl, o7.1, o7.2.1.le (by omega), o7.2.2⟩
      | true =>
        refine iteT ?_
        refine ⟨_, rfl, b, g, _, rfl, o7.2.1, hne, by omega, fun q8 ch8 H8 l8 h8 k8 b8 q80 ⟨xs8, x8, d8⟩ => ?_⟩
        exact hNx _ _ ⟨q8, ch8, rfl, o7.1.trans k8, b8.le (by omega), o7.1.free o7.2.1 q80, ⟨l8.1, l8.2, fun h hh => ⟨(h8 h hh).1, by have := (h8 h hh).2; omega⟩⟩, xs8, x8, d8⟩
    rintro σ H8 ⟨q8, ch8, rfl, o8⟩
    refine seqM (t := tIfS _ _ _) (fun σ H' => ∃ q' ch', σ = [some (.ref b), some (.ref p), some (.int (way : Nat)), some (.int (spot : Nat)), some (.ref pr), some (.ref q')] ∧ OthAt K b g H H' q' (c + 14) ch') (fun Nx hNx => ?_) ?_
    · have no : Nx [some (.ref b), some (.ref p), some (.int (way : Nat)), some (.int (spot : Nat)), some (.ref pr), some (.ref q8)] H8 := hNx _ _ ⟨q8, ch8, rfl, o8.1, o8.2.1.le (by omega), o8.2.2⟩
      refine ⟨_, rfl, rfl, _, rfl, ?_⟩
      cases hw : decide (V.int (way : Nat) = V.int 6) with
      | false =>
        refine iteF ?_
        exact no
      | true =>
        refine iteT ⟨_, rfl, p, _, rfl, .inl (.of (psk o8.1)), rfl, _, rfl, ?_⟩
        cases hn : decide (V.int (ps.length : Nat) = V.int 1) with
        | false =>
          refine iteF ?_
          exact no
        | true =>
          have hl1 := hlen1 hn
          refine iteT ?_
          refine ⟨_, rfl, b, g, _, 2, rfl, o8.2.1, hne, by decide, by decide, by omega, fun r3 H9 hr3 k9 b9 => ?_⟩
          refine ⟨rfl, by show 3 ≤ sizeLine; decide, fun t ht => ⟨by show 1 ≤ sizeLine; decide, fun nl hnl => ?_⟩⟩
          have k69 := o8.1.trans k9
          have eT := same_new (o := .tup [.int 0, .bl true, .bl (decide (V.int (r3 : Nat) = V.int 1))]) ht
          have eL := same_new (o := .lst [.ref t]) hnl
          have kk := (k69.trans (.of eT)).trans (.of eL)
          refine ⟨_, rfl, nl, p, [.ref t], ps, rfl, rfl, upd_same, psk kk, ?_, fun q7 hq7 => ?_⟩
          · rw [hl1]; show 1 + 1 ≤ sizeLine; decide
          have eQ := same_new (o := .lst ([.ref t] ++ ps)) hq7
          have bb := ((b9.mono eT).mono eL)
          refine hNx _ _ ⟨q7, ⟨0, true, decide (V.int (r3 : Nat) = V.int 1)⟩ :: ch, rfl, kk.trans (.of eQ), (bb.mono eQ).le (by omega), kk.free bb hq7, ⟨by simp, by rw [List.length_cons]; omega, fun h hh => ?_⟩, _, upd_same, ?_⟩
          · rcases List.mem_cons.mp hh with z | z
            · rw [z]; exact ⟨by show (0 : Int) ≤ 0; omega, by show (0 : Int) ≤ 3; omega⟩
            · exact hch.2.2 h z
          · exact .cons (Dp.mono (eL.trans eQ) _ _ (.tup (.of upd_same) (.cons (.int _) (.cons (.bl _) (.cons (.bl _) .nil))))) (pda (kk.trans (.of eQ)))
    rintro σ H9 ⟨q9, ch9, rfl, o9⟩
    exact ⟨_, rfl, k q9 ch9 H9 ⟨o9.1, o9.2.1.le (by omega), o9.2.2⟩⟩
end
end K98
set_option Elab.async false
set_option linter.all false
set_option maxRecDepth 100000
set_option maxHeartbeats 4000000
namespace K98
open PySem PySem.Spec PyProof.Rows L2 Ru He6 TL
open C8 (Cal pe_c)
/-- but for the object at a all is kept -/
def KeptBut (a : Addr) (H H' : Hp) : Prop := ∀ b o, H b = some o → b ≠ a → H' b = some o
theorem KeptBut.upd' {a : Addr} {H H' : Hp} {o : HO} (h : KeptBut a H H') : KeptBut a H (upd H' a o) := fun b x e n => by rw [upd_ne n]; exact h b x e n
theorem KeptBut.of {a : Addr} {H H' : Hp} (h : Same H H') : KeptBut a H H' := fun b x e _ => h b x e
theorem KeptBut.trans {a : Addr} {H H' H2 : Hp} (h : KeptBut a H H') (e : Same H' H2) : KeptBut a H H2 := fun b x q n => e b x (h b x q n)
/-- o.f = (a name): the store, and what follows -/
theorem stepF {K : PySem.W.Frag} {a C dx : Addr} {fs : List (Str × V)} {H H'' : Hp} {σ : L2.St} {rest : TS} {D : Ends} {i : Nat} {v : V} {f : Str} (h0 : σ[0]? = some (some (.ref a))) (hv : σ[i]? = some (some v)) (c : Cls K C) (i1 : KeptBut a H H'') (i3 : H'' a = some (.ins C dx fs)) (na : NoAttr K C f) (hf : fs.length ≤ 20)
    (kk : ∀ H3, KeptBut a H H3 → H3 a = some (.ins C dx (putF f v fs)) → rest D σ H3) : tSeq (sFld K (tVar 0) (tVar i) f) rest D σ H'' :=
  ⟨v, hv, _, h0, a, C, dx, fs, rfl, i3, c, na, Nat.lt_of_le_of_lt hf (by decide), kk _ i1.upd' upd_same⟩
theorem stepL {K : PySem.W.Frag} {a C dx : Addr} {fs : List (Str × V)} {H H'' : Hp} {σ : L2.St} {D : Ends} {i : Nat} {v : V} {f : Str} (h0 : σ[0]? = some (some (.ref a))) (hv : σ[i]? = some (some v)) (c : Cls K C) (i1 : KeptBut a H H'') (i3 : H'' a = some (.ins C dx fs)) (na : NoAttr K C f) (hf : fs.length ≤ 20)
    (kk : ∀ H3, KeptBut a H H3 → H3 a = some (.ins C dx (putF f v fs)) → D.nx σ H3) : sFld K (tVar 0) (tVar i) f D σ H'' :=
  ⟨v, hv, _, h0, a, C, dx, fs, rfl, i3, c, na, Nat.lt_of_le_of_lt hf (by decide), kk _ i1.upd' upd_same⟩
/-- a new instance, made by an __init__ that keeps all else -/
theorem made_same {H0 H H1 : Hp} {x dx C : Addr} (e : Same H0 H) (hx : H x = none) (hdx : H dx = none) (hne : dx ≠ x) (h : KeptBut x (upd (upd H dx (.own x)) x (.ins C dx [])) H1) : Same H0 H1 := fun b o hb => by
  have h0 := e b o hb
  refine h b o ?_ (ne_of_none h0 hx)
  rw [upd_ne (ne_of_none h0 hx), upd_ne (ne_of_none h0 hdx)]; exact h0
theorem pe_mk0 {X : Cx} {k j : Nat} {C : Addr} {x : Str} {sp : Sp} {dvs : List V} {p pos : Pos} (c : C8.Mak X.prog X.w X.K X.mg X.base k x C sp dvs) (hr : Room j X.A) (hk : k + 1 ≤ j) (hg : Gl X x) (hdb : (x == ("__debug__" : Str)) = false := by decide) : PE X (.Call (.Name x p) [] [] pos) (tMake C sp dvs E0 tNil) := by
  obtain ⟨f, fd, ps, ds, M, F, hm, b, d⟩ := c.ex
  exact pe_make0 M F (hr.mono hk) hg hm b d pass0 hdb
section
variable {P : Program} {w : World} {K : PySem.W.Frag} {mg : Str → Option Value} {base : Heap}
theorem sc_Clock__init : FnScope ["self", "behind", "ahead"] ["self", "behind", "ahead"] (defScope s_Clock__init) := ⟨rfl, rfl, rfl, by decide +kernel, rfl, by decide +kernel, by decide +kernel⟩
def sp_Clock__init (K : PySem.W.Frag) : Sp := fun vs H Q _ => ∃ a dx, vs = [.ref a, .int 0, .int 0] ∧ H a = some (.ins (He.ga K "Clock") dx []) ∧ ∀ H', KeptBut a H H' → ClockAt K H' a → Q .non H'
theorem ok_Clock__init (T : TT K mg) : C8.Mak P w K mg base 1 "Clock" (He.ga K "Clock") (sp_Clock__init K) [.int 0, .int 0] := by
  obtain ⟨fd, F⟩ := f_Clock__init T
  obtain ⟨ds, r, b⟩ := F.binds1 (ps := ["self", "behind", "ahead"]) 1 0 (by simp) rfl (fun T kV doc pm an cdv ct us its l1 l2 => match us, its, l1, l2 with | [_], [_, _], _, _ => ⟨_, rfl, rfl⟩)
  refine ⟨_, fd, _, ds, k_Clock T, fn_of' F sc_Clock__init (fun vs H Q E h => ?_) (fun cdv A outer s H vs Q E hr h => ?_), g_Clock T, b, r⟩
  · obtain ⟨a, dx, rfl, _⟩ := h; rfl
  · obtain ⟨a, dx, rfl, ha, k⟩ := h
    refine ⟨_, (pss_cons (ps_if (pt_not (pt_chain op_le op_le pe_int (pv 1) (pe_glob (v := .int 1000) (by rfl) (i_MOST_BOUND T).choose_spec ⟨_, rfl⟩)))
 (pss_one ps_never)
 pss_nil)
 (pss_cons (ps_if (pt_not (pt_chain op_le op_le pe_int (pv 2) (pe_glob (v := .int 1000) (by rfl) (i_MOST_BOUND T).choose_spec ⟨_, rfl⟩)))
 (pss_one ps_never)
 pss_nil)
 (pss_cons (ps_fld (pv 0) (pv 1) rfl)
 (pss_one (ps_fld (pv 0) (pv 2) rfl))))), ?_⟩
    refine ⟨_, rfl, _, _, rfl, rfl, _, rfl, iteT ⟨_, _, rfl, rfl, _, rfl, ?_⟩⟩
    refine iteF ?_
    refine ⟨_, rfl, _, _, rfl, rfl, _, rfl, iteT ⟨_, _, rfl, rfl, _, rfl, ?_⟩⟩
    refine iteF ?_
    refine ⟨_, rfl, _, rfl, a, _, dx, _, rfl, ha, c_Clock T, n_Clock_behind T, by decide, ?_⟩
    refine ⟨_, rfl, _, rfl, a, _, dx, _, rfl, upd_same, c_Clock T, n_Clock_ahead T, by decide, ?_⟩
    exact k _ ((KeptBut.of (Same.refl H)).upd'.upd') ⟨dx, upd_same.trans (congrArg (fun fs => some (HO.ins (He.ga K "Clock") dx fs)) (by kernel_rfl))⟩
theorem sc_is_allowed : FnScope ["number"] ["number"] (defScope s_is_allowed) := ⟨rfl, rfl, rfl, by decide +kernel, rfl, by decide +kernel, by decide +kernel⟩
def sp_is_allowed (K : PySem.W.Frag) : Sp := fun vs H Q _ => ∃ n : Nat, vs = [.int n] ∧ n ≤ 999999 ∧ Q (.bl true) H
theorem ok_is_allowed (T : TT K mg) : Cal P w K mg base 1 "is_allowed" (sp_is_allowed K) [] := by
  refine cal_of (f_is_allowed T) (g_is_allowed T) sc_is_allowed (fun _ _ _ _ _ _ us hl => match us, hl with | [_], _ => rfl) (fun vs H Q E h => ?_) (fun cdv A outer s H vs Q E hr h => ?_)
  · obtain ⟨n, rfl, hn, k⟩ := h; rfl
  · obtain ⟨n, rfl, hn, k⟩ := h
    refine ⟨_, (pss_one (ps_ret (pe_chain op_le op_le pe_int (pv 0) (pe_glob (v := .int 999999) (by rfl) (i_MOST_NUMBER T).choose_spec ⟨_, rfl⟩)))), ?_⟩
    refine ⟨_, rfl, _, _, rfl, rfl, _, rfl, ?_⟩
    rw [decide_eq_true (show (0 : Int) ≤ (n : Nat) by omega)]
    refine iteT ⟨_, _, rfl, rfl, ?_⟩
    show Q (.bl (decide ((n : Int) ≤ 999999))) H
    rw [decide_eq_true (by omega)]
    exact k
theorem sc_is_allowed_or_none : FnScope ["number"] ["number"] (defScope s_is_allowed_or_none) := ⟨rfl, rfl, rfl, by decide +kernel, rfl, by decide +kernel, by decide +kernel⟩
def sp_is_allowed_or_none (K : PySem.W.Frag) : Sp := fun vs H Q _ => ∃ o, vs = [optV o] ∧ (∀ n, o = some n → n ≤ 999999) ∧ Q (.bl true) H
theorem ok_is_allowed_or_none (T : TT K mg) : Cal P w K mg base 2 "is_allowed_or_none" (sp_is_allowed_or_none K) [] := by
  refine cal_of (f_is_allowed_or_none T) (g_is_allowed_or_none T) sc_is_allowed_or_none (fun _ _ _ _ _ _ us hl => match us, hl with | [_], _ => rfl) (fun vs H Q E h => ?_) (fun cdv A outer s H vs Q E hr h => ?_)
  · obtain ⟨o, rfl, hn, k⟩ := h; rfl
  · obtain ⟨o, rfl, hn, k⟩ := h
    refine ⟨_, (pss_one (ps_ret (pe_or (pe_cmp (pc_isN (pv 0))) (pe_one (pe_c (ok_is_allowed T) hr (by decide) (by rfl) (pa_cons (pv 0) pa_nil)))))), ?_⟩
    cases o with
    | none => exact ⟨_, rfl, _, rfl, iteT k⟩
    | some n => exact ⟨_, rfl, _, rfl, iteF ⟨_, rfl, n, rfl, hn n rfl, k⟩⟩
end
end K98
set_option Elab.async false
set_option linter.all false
set_option maxRecDepth 100000
set_option maxHeartbeats 4000000
namespace K98
open PySem PySem.Spec PyProof.Rows L2 Ru He6 TL
structure FnI (P : Program) (w : World) (K : PySem.W.Frag) (mg : Str → Option Value) (base : Heap) (k : Nat) (qual : Str) (st : Stmt) (kws : List (Str × V)) (ps : List Str) (sp : Sp) (f : Addr) : Prop where
  ex : ∃ (fd : FuncData), FunD K "__init__" qual (defArgs st) (defBody st) (defScope st) [] kws f fd ∧ FnOk P w K mg base CX0 k f fd ps sp
structure MakK (P : Program) (w : World) (K : PySem.W.Frag) (mg : Str → Option Value) (base : Heap) (k : Nat) (x : Str) (C : Addr) (n : Nat) (ks : List Str) (gV : List V → List V → List V) (sp : Sp) : Prop where
  ex : ∃ (f : Addr) (fd : FuncData) (ps : List Str) (g : List Value → List Value → List Value), Mk K C f ∧ FnOk P w K mg base CX0 k f fd ps sp ∧ mg x = some (.ref C) ∧ KBn K fd ps (n + 1) ks g gV
section
variable {P : Program} {w : World} {K : PySem.W.Frag} {mg : Str → Option Value} {base : Heap} {k : Nat} {qual : Str} {st : Stmt} {kws : List (Str × V)} {ps : List Str} {sp : Sp} {f : Addr}
theorem fni_of {N : List Str} (F : ∃ fd, FunD K "__init__" qual (defArgs st) (defBody st) (defScope st) [] kws f fd) (S : FnScope N ps (defScope st)) (len : ∀ vs H Q E, sp vs H Q E → vs.length = ps.length)
    (hbody : ∀ (cdv : Value) (A : Around) (outer : List Env) (s : Shared) (H : Hp) (vs : List V) (Q : VK) (E : XK), Room k (A.deeper (envOfC qual (defScope st) s.heap.objs.size f cdv)) → sp vs H Q E →
      ∃ t, PSs (cxOf CX0 P w K mg base N qual (defScope st) f cdv A outer s H E).nox (defBody st) t ∧ t { nx := fun _ H' => Q .non H', rt := Q } (start N vs) H) : FnI P w K mg base (k + 1) qual st kws ps sp f := by
  obtain ⟨fd, F⟩ := F
  exact ⟨fd, F, fn_of' F S len hbody⟩
theorem FnI.mak {C : Addr} {x : Str} (F : FnI P w K mg base k qual st kws ps sp f) (M : Mk K C f) (hm : mg x = some (.ref C)) (n : Nat) (ks : List Str) (ms : List (Str × V)) (g : {α : Type} → List α → List α → List α → List α) (hk : kws ≠ []) (hms : ∀ q ∈ ms, q ∈ kws)
    (hrel : ∀ {vs mz zs : List V} {us mv ws : List Value}, Vals vs us → Vals mz mv → Vals zs ws → Vals (g vs mz zs) (g us mv ws))
    (h : ∀ (D : Addr) (doc pm : Value) (an : Option Addr) (cdv ct : Value) (us mv ws : List Value), us.length = n + 1 → mv.length = ms.length → ws.length = ks.length →
      KwChain D ((ms.map (·.1)).zip mv) (bindArgs (PySem.W.fnOf "__init__" qual (defArgs st) (defBody st) (defScope st) .none (.ref D) doc pm an cdv ct) ⟨us, ks.zip ws⟩) (ps.zip (g us mv ws))) :
    MakK P w K mg base k x C n ks (fun vs zs => g vs (ms.map (·.2)) zs) sp := by
  obtain ⟨fd, D, F⟩ := F.ex
  obtain ⟨mv, b⟩ := D.kbinds0 (n + 1) ks ms g hk hms hrel h
  exact ⟨f, fd, ps, _, M, F, hm, b⟩
theorem FnI.mak0 {C : Addr} {x : Str} (F : FnI P w K mg base k qual st kws ps sp f) (M : Mk K C f) (hm : mg x = some (.ref C)) (n : Nat) (hk : kws ≠ []) (hn : n + kws.length = ps.length)
    (h : ∀ (D : Addr) (doc pm : Value) (an : Option Addr) (cdv ct : Value) (us ks : List Value), us.length = n → ks.length = kws.length →
      KwChain D ((kws.map (·.1)).zip ks) (bindArgs (PySem.W.fnOf "__init__" qual (defArgs st) (defBody st) (defScope st) .none (.ref D) doc pm an cdv ct) ⟨us, []⟩) (ps.zip (us ++ ks))) : C8.Mak P w K mg base k x C sp (kws.map (·.2)) := by
  obtain ⟨fd, D, F⟩ := F.ex
  obtain ⟨ds, r, b⟩ := D.binds0 n hk hn h
  exact ⟨f, fd, ps, ds, M, F, hm, b, r⟩
end
section
variable {X : Cx} {k j n : Nat} {x : Str} {C : Addr} {ks : List Str} {gV : List V → List V → List V} {sp : Sp} {p pos : Pos} {e : Expr} {es : List Expr} {kws : List Keyword} {t tk : TA}
theorem pe_mkK (c : MakK X.prog X.w X.K X.mg X.base k x C n ks gV sp) (hr : Room j X.A) (hk : k + 1 ≤ j) (hg : Gl X x) (ha : PA X (e :: es) t) (hkw : PK X kws tk)
    (hall : (backToKw pos (keywordEach kws X.env)).all (·.1.isSome) = true := by rfl) (hks : (backToKw pos (keywordEach kws X.env)).filterMap (·.1) = ks := by rfl) (hdb : (x == ("__debug__" : Str)) = false := by decide)
    (he : starEach (e :: es) X.env = (false, eval e X.env) :: starEach es X.env := by rfl) (hpl : ((backTo pos (starEach (e :: es) X.env)).any (·.1) || (backToKw pos (keywordEach kws X.env)).any (·.1.isNone)) = false := by rfl) :
    PE X (.Call (.Name x p) (e :: es) kws pos) (tMakeK C n ks.length sp gV E0 t tk) := by
  obtain ⟨f, fd, ps, g, M, F, hm, hb⟩ := c.ex
  exact pe_makeK M F (hr.mono hk) hg hm hb pass0 ha hkw hall hks hdb he hpl
theorem pe_mkK0 (c : MakK X.prog X.w X.K X.mg X.base k x C 0 ks gV sp) (hr : Room j X.A) (hk : k + 1 ≤ j) (hg : Gl X x) (hkw : PK X kws tk)
    (hall : (backToKw pos (keywordEach kws X.env)).all (·.1.isSome) = true := by rfl) (hks : (backToKw pos (keywordEach kws X.env)).filterMap (·.1) = ks := by rfl) (hdb : (x == ("__debug__" : Str)) = false := by decide)
    (hpl : ((backTo pos (starEach [] X.env)).any (·.1) || (backToKw pos (keywordEach kws X.env)).any (·.1.isNone)) = false := by rfl) :
    PE X (.Call (.Name x p) [] kws pos) (tMakeK C 0 ks.length sp gV E0 tNil tk) := by
  obtain ⟨f, fd, ps, g, M, F, hm, hb⟩ := c.ex
  exact pe_makeK0 M F (hr.mono hk) hg hm hb pass0 hkw hall hks hdb hpl
end
end K98
set_option Elab.async false
set_option linter.all false
set_option maxRecDepth 100000
set_option maxHeartbeats 4000000
namespace K98
open PySem PySem.Spec PyProof.Rows L2 Ru He6 TL
open C8 (Cal pe_c)
abbrev kwKind : List (Str × V) := [(("shared_lasts" : Str), V.non), (("late" : Str), V.int (0)), (("on_error" : Str), V.int (0)), (("strict" : Str), V.bl false), (("check" : Str), V.bl false), (("own" : Str), V.bl false), (("never" : Str), V.bl false), (("mark" : Str), V.str "strong"), (("dated" : Str), V.bl false), (("margin" : Str), V.int (0))]
section
variable {P : Program} {w : World} {K : PySem.W.Frag} {mg : Str → Option Value} {base : Heap}
theorem marks_at (T : TT K mg) (H : Hp) : SqT K H (He.ga K "MARK_WORDS") [.str "strong", .str "weak", .str "none"] := He.tupB_ok (x_2 T) H
theorem sc_Kind__init : FnScope ["self", "lasts", "shared_lasts", "late", "on_error", "strict", "check", "own", "never", "mark", "dated", "margin"] ["self", "lasts", "shared_lasts", "late", "on_error", "strict", "check", "own", "never", "mark", "dated", "margin"] (defScope s_Kind__init) := ⟨rfl, rfl, rfl, by decide +kernel, rfl, by decide +kernel, by decide +kernel⟩
def sp_Kind__init (K : PySem.W.Frag) : Sp := fun vs H Q _ => ∃ a dx kd, vs = [.ref a, .int (kd.lasts : Nat), optV kd.shared, .int (kd.late : Nat), .int (kd.onErr : Nat), .bl kd.strict, .bl false, .bl false, .bl false, .str kd.mark, .bl kd.dated, .int (kd.margin : Nat)] ∧ kdOk kd ∧ kd.margin ≤ 1000 ∧ (kd.mark = "strong" ∨ kd.mark = "weak" ∨ kd.mark = "none") ∧
  H a = some (.ins (He.ga K "Kind") dx []) ∧ ∀ H', KeptBut a H H' → KindAt K H' a kd → Q .non H'
theorem ok_Kind__init (T : TT K mg) : FnI P w K mg base 3 "Kind.__init__" s_Kind__init kwKind ["self", "lasts", "shared_lasts", "late", "on_error", "strict", "check", "own", "never", "mark", "dated", "margin"] (sp_Kind__init K) (He.ma K (He.ga K "Kind") "__init__") := by
  refine fni_of (f_Kind__init T) sc_Kind__init (fun vs H Q E h => ?_) (fun cdv A outer s H vs Q E hr h => ?_)
  · obtain ⟨a, dx, kd, rfl, _⟩ := h; rfl
  · obtain ⟨a, dx, kd, rfl, hok, hmg, hmk, ha, k⟩ := h
    refine ⟨_, (pss_cons (ps_if (pt_not (pt_val (pe_c (ok_is_allowed_or_none T) hr (by decide) (by rfl) (pa_cons (pv 1) pa_nil))))
 (pss_one ps_never)
 pss_nil)
 (pss_cons (ps_if (pt_not (pt_val (pe_c (ok_is_allowed_or_none T) hr (by decide) (by rfl) (pa_cons (pv 2) pa_nil))))
 (pss_one ps_never)
 pss_nil)
 (pss_cons (ps_if (pt_not (pt_val (pe_c (ok_is_allowed T) hr (by decide) (by rfl) (pa_cons (pv 3) pa_nil))))
 (pss_one ps_never)
 pss_nil)
 (pss_cons (ps_if (pt_not (pt_val (pe_c (ok_is_allowed T) hr (by decide) (by rfl) (pa_cons (pv 4) pa_nil))))
 (pss_one ps_never)
 pss_nil)
 (pss_cons (ps_if (pt_cmpR op_notIn_seq (pv 9) (pe_glob (v := .ref (He.ga K "MARK_WORDS")) (by rfl) (g_MARK_WORDS T) rfl) rfl)
 (pss_one ps_never)
 pss_nil)
 (pss_cons (ps_if (pt_not (pt_val (pe_c (ok_is_allowed T) hr (by decide) (by rfl) (pa_cons (pv 11) pa_nil))))
 (pss_one ps_never)
 pss_nil)
 (pss_cons (ps_fld (pv 0) (pv 1) rfl)
 (pss_cons (ps_fld (pv 0) (pv 2) rfl)
 (pss_cons (ps_fld (pv 0) (pv 3) rfl)
 (pss_cons (ps_fld (pv 0) (pv 4) rfl)
 (pss_cons (ps_fld (pv 0) (pv 5) rfl)
 (pss_cons (ps_fld (pv 0) (pv 6) rfl)
 (pss_cons (ps_fld (pv 0) (pv 7) rfl)
 (pss_cons (ps_fld (pv 0) (pv 8) rfl)
 (pss_cons (ps_fld (pv 0) (pv 9) rfl)
 (pss_cons (ps_fld (pv 0) (pv 10) rfl)
 (pss_one (ps_fld (pv 0) (pv 11) rfl)))))))))))))))))), ?_⟩
    refine ⟨_, rfl, some kd.lasts, rfl, (fun n hn => by cases hn; exact Nat.le_trans (Nat.le_of_lt hok.1) (by decide)), _, rfl, iteF ?_⟩
    refine ⟨_, rfl, kd.shared, rfl, (fun n hn => Nat.le_trans (Nat.le_of_lt (hok.2.1 n hn)) (by decide)), _, rfl, iteF ?_⟩
    refine ⟨_, rfl, kd.late, rfl, Nat.le_trans (Nat.le_of_lt hok.2.2.1) (by decide), _, rfl, iteF ?_⟩
    refine ⟨_, rfl, kd.onErr, rfl, Nat.le_trans (Nat.le_of_lt hok.2.2.2) (by decide), _, rfl, iteF ?_⟩
    refine ⟨_, rfl, _, _, rfl, .inr (marks_at T _), rfl, rfl, _, rfl, ?_⟩
    have hin : inV (.str kd.mark) [.str "strong", .str "weak", .str "none"] = true := by
      rcases hmk with h | h | h <;> rw [h] <;> decide +kernel
    rw [hin]
    refine iteF ⟨_, rfl, kd.margin, rfl, Nat.le_trans hmg (by decide), _, rfl, iteF ?_⟩
    refine stepF rfl rfl (c_Kind T) (KeptBut.of (Same.refl H)) ha (n_Kind_lasts T) (by decide) fun H2 i1 i3 => ?_
    refine stepF rfl rfl (c_Kind T) i1 i3 (n_Kind_shared_lasts T) (Nat.le_trans (putF_le (Nat.zero_le 0)) (by decide)) fun H2 i1 i3 => ?_
    refine stepF rfl rfl (c_Kind T) i1 i3 (n_Kind_late T) (Nat.le_trans (putF_le (putF_le (Nat.zero_le 0))) (by decide)) fun H2 i1 i3 => ?_
    refine stepF rfl rfl (c_Kind T) i1 i3 (n_Kind_on_error T) (Nat.le_trans (putF_le (putF_le (putF_le (Nat.zero_le 0)))) (by decide)) fun H2 i1 i3 => ?_
    refine stepF rfl rfl (c_Kind T) i1 i3 (n_Kind_strict T) (Nat.le_trans (putF_le (putF_le (putF_le (putF_le (Nat.zero_le 0))))) (by decide)) fun H2 i1 i3 => ?_
    refine stepF rfl rfl (c_Kind T) i1 i3 (n_Kind_check T) (Nat.le_trans (putF_le (putF_le (putF_le (putF_le (putF_le (Nat.zero_le 0)))))) (by decide)) fun H2 i1 i3 => ?_
    refine stepF rfl rfl (c_Kind T) i1 i3 (n_Kind_own T) (Nat.le_trans (putF_le (putF_le (putF_le (putF_le (putF_le (putF_le (Nat.zero_le 0))))))) (by decide)) fun H2 i1 i3 => ?_
    refine stepF rfl rfl (c_Kind T) i1 i3 (n_Kind_never T) (Nat.le_trans (putF_le (putF_le (putF_le (putF_le (putF_le (putF_le (putF_le (Nat.zero_le 0)))))))) (by decide)) fun H2 i1 i3 => ?_
    refine stepF rfl rfl (c_Kind T) i1 i3 (n_Kind_mark T) (Nat.le_trans (putF_le (putF_le (putF_le (putF_le (putF_le (putF_le (putF_le (putF_le (Nat.zero_le 0))))))))) (by decide)) fun H2 i1 i3 => ?_
    refine stepF rfl rfl (c_Kind T) i1 i3 (n_Kind_dated T) (Nat.le_trans (putF_le (putF_le (putF_le (putF_le (putF_le (putF_le (putF_le (putF_le (putF_le (Nat.zero_le 0)))))))))) (by decide)) fun H2 i1 i3 => ?_
    refine stepL rfl rfl (c_Kind T) i1 i3 (n_Kind_margin T) (Nat.le_trans (putF_le (putF_le (putF_le (putF_le (putF_le (putF_le (putF_le (putF_le (putF_le (putF_le (Nat.zero_le 0))))))))))) (by decide)) fun H2 i1 i3 => ?_
    exact k H2 i1 ⟨dx, i3.trans (congrArg (fun fs => some (HO.ins (He.ga K "Kind") dx fs)) (by kernel_rfl))⟩
theorem mk_Kind (T : TT K mg) : MakK P w K mg base 3 "Kind" (He.ga K "Kind") 1 ["shared_lasts", "late", "on_error", "strict", "mark", "dated", "margin"] (fun vs zs => vs ++ (zs.take 4 ++ ([V.bl false, .bl false, .bl false] ++ zs.drop 4))) (sp_Kind__init K) :=
  (ok_Kind__init T).mak (k_Kind T) (g_Kind T) 1 ["shared_lasts", "late", "on_error", "strict", "mark", "dated", "margin"] [("check", .bl false), ("own", .bl false), ("never", .bl false)] (fun us mv ws => us ++ (ws.take 4 ++ (mv ++ ws.drop 4))) (by simp) (by simp)
    (fun r1 r2 r3 => r1.append ((r3.take 4).append (r2.append (r3.drop 4)))) fun D doc pm an cdv ct us mv ws l1 l2 l3 => match us, mv, ws, l1, l2, l3 with
      | [_, _], [_, _, _], [_, _, _, _, _, _, _], _, _, _ => ⟨_, _, _, _, _, _, rfl, rfl, _, _, _, _, _, _, rfl, rfl, _, _, _, _, _, _, rfl, rfl, rfl⟩
end
end K98
set_option Elab.async false
set_option linter.all false
set_option maxRecDepth 100000
set_option maxHeartbeats 4000000
namespace K98
open PySem PySem.Spec PyProof.Rows L2 Ru He6 TL
open C8 (Cal pe_c)
abbrev kwMake : List (Str × V) := [(("shared" : Str), V.bl true), (("grace" : Str), V.int (0)), (("error_grace" : Str), V.int (0)), (("tells" : Str), V.bl true), (("dates" : Str), V.bl false), (("checks" : Str), V.bl true), (("share" : Str), V.int (0)), (("cap" : Str), V.int (0)), (("durable" : Str), V.bl false), (("room" : Str), V.int (8))]
section
variable {P : Program} {w : World} {K : PySem.W.Frag} {mg : Str → Option Value} {base : Heap}
theorem na'_shared (T : TT K mg) : ∀ n, NoAttr K (clsOf K n) "shared"
  | 0 => n_Make_shared T
  | 1 => n_StrictMake_shared T
  | _ + 2 => n_OwnMake_shared T
theorem na'_grace (T : TT K mg) : ∀ n, NoAttr K (clsOf K n) "grace"
  | 0 => n_Make_grace T
  | 1 => n_StrictMake_grace T
  | _ + 2 => n_OwnMake_grace T
theorem na'_error_grace (T : TT K mg) : ∀ n, NoAttr K (clsOf K n) "error_grace"
  | 0 => n_Make_error_grace T
  | 1 => n_StrictMake_error_grace T
  | _ + 2 => n_OwnMake_error_grace T
theorem na'_tells (T : TT K mg) : ∀ n, NoAttr K (clsOf K n) "tells"
  | 0 => n_Make_tells T
  | 1 => n_StrictMake_tells T
  | _ + 2 => n_OwnMake_tells T
theorem na'_dates (T : TT K mg) : ∀ n, NoAttr K (clsOf K n) "dates"
  | 0 => n_Make_dates T
  | 1 => n_StrictMake_dates T
  | _ + 2 => n_OwnMake_dates T
theorem na'_checks (T : TT K mg) : ∀ n, NoAttr K (clsOf K n) "checks"
  | 0 => n_Make_checks T
  | 1 => n_StrictMake_checks T
  | _ + 2 => n_OwnMake_checks T
theorem na'_share (T : TT K mg) : ∀ n, NoAttr K (clsOf K n) "share"
  | 0 => n_Make_share T
  | 1 => n_StrictMake_share T
  | _ + 2 => n_OwnMake_share T
theorem na'_cap (T : TT K mg) : ∀ n, NoAttr K (clsOf K n) "cap"
  | 0 => n_Make_cap T
  | 1 => n_StrictMake_cap T
  | _ + 2 => n_OwnMake_cap T
theorem na'_durable (T : TT K mg) : ∀ n, NoAttr K (clsOf K n) "durable"
  | 0 => n_Make_durable T
  | 1 => n_StrictMake_durable T
  | _ + 2 => n_OwnMake_durable T
theorem na'_room (T : TT K mg) : ∀ n, NoAttr K (clsOf K n) "room"
  | 0 => n_Make_room T
  | 1 => n_StrictMake_room T
  | _ + 2 => n_OwnMake_room T
def mkOk (m : MakeD) : Prop := 0 ≤ m.grace ∧ 0 ≤ m.egrace ∧ 0 ≤ m.share ∧ m.share ≤ 100 ∧ 0 ≤ m.cap ∧ 1 ≤ m.room ∧ m.room ≤ 100
theorem sc_Make__init : FnScope ["self", "shared", "grace", "error_grace", "tells", "dates", "checks", "share", "cap", "durable", "room"] ["self", "shared", "grace", "error_grace", "tells", "dates", "checks", "share", "cap", "durable", "room"] (defScope s_Make__init) := ⟨rfl, rfl, rfl, by decide +kernel, rfl, by decide +kernel, by decide +kernel⟩
def sp_Make__init (K : PySem.W.Frag) : Sp := fun vs H Q _ => ∃ a dx m, vs = [.ref a, .bl m.shared, .int m.grace, .int m.egrace, .bl m.tells, .bl m.dates, .bl m.checks, .int m.share, .int m.cap, .bl m.durable, .int m.room] ∧ mkOk m ∧ H a = some (.ins (clsOf K m.tag) dx []) ∧ ∀ H', KeptBut a H H' → MakeAt K H' a m → Q .non H'
theorem ok_Make__init (T : TT K mg) : FnI P w K mg base 1 "Make.__init__" s_Make__init kwMake ["self", "shared", "grace", "error_grace", "tells", "dates", "checks", "share", "cap", "durable", "room"] (sp_Make__init K) (He.ma K (He.ga K "Make") "__init__") := by
  refine fni_of (f_Make__init T) sc_Make__init (fun vs H Q E h => ?_) (fun cdv A outer s H vs Q E hr h => ?_)
  · obtain ⟨a, dx, m, rfl, _⟩ := h; rfl
  · obtain ⟨a, dx, m, rfl, ⟨m1, m2, m3, m4, m5, m6, m7⟩, ha, k⟩ := h
    generalize hn : m.tag = n at ha
    refine ⟨_, (pss_cons (ps_if (PW.pt (pw_and (pt_cmp (pc_notN (pv 2))) (pw_and1 (pt_cmpR op_lt (pv 2) pe_int (nomark _)))))
 (pss_one ps_never)
 pss_nil)
 (pss_cons (ps_if (pt_cmpR op_lt (pv 3) pe_int (nomark _))
 (pss_one ps_never)
 pss_nil)
 (pss_cons (ps_if (pt_not (pt_chain op_le op_le pe_int (pv 7) (pe_glob (v := .int 100) (by rfl) (i_MOST_SHARE T).choose_spec ⟨_, rfl⟩)))
 (pss_one ps_never)
 pss_nil)
 (pss_cons (ps_if (pt_cmpR op_lt (pv 8) pe_int (nomark _))
 (pss_one ps_never)
 pss_nil)
 (pss_cons (ps_if (pt_not (pt_chain op_le op_le pe_int (pv 10) (pe_glob (v := .int 100) (by rfl) (i_MOST_ROOM T).choose_spec ⟨_, rfl⟩)))
 (pss_one ps_never)
 pss_nil)
 (pss_cons (ps_fld (pv 0) (pv 1) rfl)
 (pss_cons (ps_fld (pv 0) (pv 2) rfl)
 (pss_cons (ps_fld (pv 0) (pv 3) rfl)
 (pss_cons (ps_fld (pv 0) (pv 4) rfl)
 (pss_cons (ps_fld (pv 0) (pv 5) rfl)
 (pss_cons (ps_fld (pv 0) (pv 6) rfl)
 (pss_cons (ps_fld (pv 0) (pv 7) rfl)
 (pss_cons (ps_fld (pv 0) (pv 8) rfl)
 (pss_cons (ps_fld (pv 0) (pv 9) rfl)
 (pss_one (ps_fld (pv 0) (pv 10) rfl)))))))))))))))), ?_⟩
    refine ⟨_, rfl, _, rfl, iteT ⟨_, rfl, _, _, rfl, rfl, _, rfl, iteFd (by omega) ?_⟩⟩
    refine ⟨_, rfl, _, _, rfl, rfl, _, rfl, iteFd (by omega) ?_⟩
    refine ⟨_, rfl, _, _, rfl, rfl, _, rfl, iteTd m3 ⟨_, _, rfl, rfl, _, rfl, ?_⟩⟩
    rw [decide_eq_true m4]
    refine iteF ⟨_, rfl, _, _, rfl, rfl, _, rfl, iteFd (by omega) ?_⟩
    refine ⟨_, rfl, _, _, rfl, rfl, _, rfl, iteTd m6 ⟨_, _, rfl, rfl, _, rfl, ?_⟩⟩
    rw [decide_eq_true m7]
    refine iteF ?_
    refine stepF rfl rfl (cls_of T n) (KeptBut.of (Same.refl H)) ha (na'_shared T n) (by decide) fun H2 i1 i3 => ?_
    refine stepF rfl rfl (cls_of T n) i1 i3 (na'_grace T n) (Nat.le_trans (putF_le (Nat.zero_le 0)) (by decide)) fun H2 i1 i3 => ?_
    refine stepF rfl rfl (cls_of T n) i1 i3 (na'_error_grace T n) (Nat.le_trans (putF_le (putF_le (Nat.zero_le 0))) (by decide)) fun H2 i1 i3 => ?_
    refine stepF rfl rfl (cls_of T n) i1 i3 (na'_tells T n) (Nat.le_trans (putF_le (putF_le (putF_le (Nat.zero_le 0)))) (by decide)) fun H2 i1 i3 => ?_
    refine stepF rfl rfl (cls_of T n) i1 i3 (na'_dates T n) (Nat.le_trans (putF_le (putF_le (putF_le (putF_le (Nat.zero_le 0))))) (by decide)) fun H2 i1 i3 => ?_
    refine stepF rfl rfl (cls_of T n) i1 i3 (na'_checks T n) (Nat.le_trans (putF_le (putF_le (putF_le (putF_le (putF_le (Nat.zero_le 0)))))) (by decide)) fun H2 i1 i3 => ?_
    refine stepF rfl rfl (cls_of T n) i1 i3 (na'_share T n) (Nat.le_trans (putF_le (putF_le (putF_le (putF_le (putF_le (putF_le (Nat.zero_le 0))))))) (by decide)) fun H2 i1 i3 => ?_
    refine stepF rfl rfl (cls_of T n) i1 i3 (na'_cap T n) (Nat.le_trans (putF_le (putF_le (putF_le (putF_le (putF_le (putF_le (putF_le (Nat.zero_le 0)))))))) (by decide)) fun H2 i1 i3 => ?_
    refine stepF rfl rfl (cls_of T n) i1 i3 (na'_durable T n) (Nat.le_trans (putF_le (putF_le (putF_le (putF_le (putF_le (putF_le (putF_le (putF_le (Nat.zero_le 0))))))))) (by decide)) fun H2 i1 i3 => ?_
    refine stepL rfl rfl (cls_of T n) i1 i3 (na'_room T n) (Nat.le_trans (putF_le (putF_le (putF_le (putF_le (putF_le (putF_le (putF_le (putF_le (putF_le (Nat.zero_le 0)))))))))) (by decide)) fun H2 i1 i3 => ?_
    exact k H2 i1 ⟨dx, by rw [hn]; exact i3.trans (congrArg (fun fs => some (HO.ins (clsOf K n) dx fs)) (by kernel_rfl))⟩
theorem mk_Make (T : TT K mg) : MakK P w K mg base 1 "Make" (He.ga K "Make") 0 ["shared", "grace", "error_grace", "tells", "dates", "checks", "durable", "room"] (fun vs zs => vs ++ (zs.take 6 ++ ([V.int 0, .int 0] ++ zs.drop 6))) (sp_Make__init K) :=
  (ok_Make__init T).mak (k_Make T) (g_Make T) 0 ["shared", "grace", "error_grace", "tells", "dates", "checks", "durable", "room"] [("share", .int 0), ("cap", .int 0)] (fun us mv ws => us ++ (ws.take 6 ++ (mv ++ ws.drop 6))) (by simp) (by simp)
    (fun r1 r2 r3 => r1.append ((r3.take 6).append (r2.append (r3.drop 6)))) fun D doc pm an cdv ct us mv ws l1 l2 l3 => match us, mv, ws, l1, l2, l3 with
      | [_], [_, _], [_, _, _, _, _, _, _, _], _, _, _ => ⟨_, _, _, _, _, _, rfl, rfl, _, _, _, _, _, _, rfl, rfl, rfl⟩
theorem mk_StrictMake (T : TT K mg) : MakK P w K mg base 1 "StrictMake" (He.ga K "StrictMake") 0 ["shared", "grace", "error_grace", "tells", "dates", "checks", "durable", "room"] (fun vs zs => vs ++ (zs.take 6 ++ ([V.int 0, .int 0] ++ zs.drop 6))) (sp_Make__init K) :=
  (ok_Make__init T).mak (of_decide_eq_true (x_7 T) ▸ k_StrictMake T) (g_StrictMake T) 0 ["shared", "grace", "error_grace", "tells", "dates", "checks", "durable", "room"] [("share", .int 0), ("cap", .int 0)] (fun us mv ws => us ++ (ws.take 6 ++ (mv ++ ws.drop 6))) (by simp) (by simp)
    (fun r1 r2 r3 => r1.append ((r3.take 6).append (r2.append (r3.drop 6)))) fun D doc pm an cdv ct us mv ws l1 l2 l3 => match us, mv, ws, l1, l2, l3 with
      | [_], [_, _], [_, _, _, _, _, _, _, _], _, _, _ => ⟨_, _, _, _, _, _, rfl, rfl, _, _, _, _, _, _, rfl, rfl, rfl⟩
end
end K98
set_option Elab.async false
set_option linter.all false
set_option maxRecDepth 100000
set_option maxHeartbeats 4000000
namespace K98
open PySem PySem.Spec PyProof.Rows L2 Ru He6 TL
open C8 (Cal pe_c)
abbrev kwSet : List (Str × V) := [(("clocks" : Str), V.non), (("delays" : Str), V.non), (("loses" : Str), V.bl false)]
section
variable {P : Program} {w : World} {K : PySem.W.Frag} {mg : Str → Option Value} {base : Heap}
theorem refs_of : ∀ {acc : List V}, (∀ v ∈ acc, ∃ c, v = V.ref c) → ∃ cs : List Addr, acc = cs.map V.ref
  | [], _ => ⟨[], rfl⟩
  | v :: vs, h => by
    obtain ⟨c, rfl⟩ := h v (List.mem_cons_self ..)
    obtain ⟨cs, e⟩ := refs_of fun x hx => h x (List.mem_cons_of_mem _ hx)
    exact ⟨c :: cs, by rw [e]; rfl⟩
theorem ClockAt.monoL {H H' : Hp} {a : Addr} (e : SameL H H') : ClockAt K H a → ClockAt K H' a := fun ⟨dx, h⟩ => ⟨dx, e _ _ h trivial⟩
theorem KeptBut.comp {a : Addr} {H H' H2 : Hp} (h : KeptBut a H H') (g : KeptBut a H' H2) : KeptBut a H H2 := fun b x e n => g b x (h b x e n) n
theorem KeptBut.free {a x : Addr} {H H' : Hp} {o : HO} (h : KeptBut a H H') (ha : H' a = some o) (hx : H' x = none) : H x = none := by
  cases q : H x with
  | none => rfl
  | some u =>
    have n : x ≠ a := fun z => by rw [z, ha] at hx; cases hx
    rw [h x u q n] at hx; cases hx
/-- a setting whose own lists were not in the heap H0 -/
def SetNew (K : PySem.W.Frag) (H0 H : Hp) (a : Addr) (s : SetD) : Prop := ∃ dx pm pk pc pd ms cs nd, SetAt' K H s a dx pm pk pc pd ms cs nd ∧ H0 pm = none ∧ H0 pc = none ∧ H0 pd = none
/-- the arguments clocks and delays: none, or lists -/
def ClkArg (K : PySem.W.Frag) (H : Hp) (n : Nat) (v : V) : Prop := v = .non ∨ ∃ (p : Addr) (cs : List Addr), v = .ref p ∧ SqL K H p (cs.map V.ref) ∧ cs.length = n + 1 ∧ ∀ c ∈ cs, ClockAt K H c
def DlyArg (K : PySem.W.Frag) (H : Hp) (n : Nat) (v : V) : Prop := v = .non ∨ ∃ p, v = .ref p ∧ SqL K H p (List.replicate n (V.int 0))
theorem sc_Setting__init : FnScope ["self", "makes", "kind", "clocks", "delays", "loses", "many_hops", "delay", "hop"] ["self", "makes", "kind", "clocks", "delays", "loses"] (defScope s_Setting__init) := ⟨rfl, rfl, rfl, by decide +kernel, rfl, by decide +kernel, by decide +kernel⟩
def sp_Setting__init (K : PySem.W.Frag) : Sp := fun vs H Q _ => ∃ (a dx pm pk : Addr) (cv dv : V) (ms : List Addr) (s : SetD), vs = [.ref a, .ref pm, .ref pk, cv, dv, .bl false] ∧ SqL K H pm (ms.map V.ref) ∧ ms.length = s.makes.length ∧ (∀ (i : Nat) (m : MakeD), s.makes[i]? = some m → ∃ am, ms[i]? = some am ∧ MakeAt K H am m) ∧ KindAt K H pk s.kind ∧
  1 ≤ s.makes.length ∧ s.makes.length ≤ 6 ∧ ClkArg K H s.makes.length cv ∧ DlyArg K H s.makes.length dv ∧ H a = some (.ins (He.ga K "Setting") dx []) ∧ ∀ H', KeptBut a H H' → SetNew K H H' a s → Q .non H'
theorem ok_Setting__init (T : TT K mg) : FnI P w K mg base 3 "Setting.__init__" s_Setting__init kwSet ["self", "makes", "kind", "clocks", "delays", "loses"] (sp_Setting__init K) (He.ma K (He.ga K "Setting") "__init__") := by
  refine fni_of (f_Setting__init T) sc_Setting__init (fun vs H Q E h => ?_) (fun cdv A outer s H vs Q E hr h => ?_)
  · obtain ⟨a, dx, pm, pk, cv, dv, ms, s, rfl, _⟩ := h; rfl
  · obtain ⟨a, dx, pm, pk, cv, dv, ms, s, rfl, hms, hml, hmat, hk, n1, n6, hcv, hdv, ha, k⟩ := h
    refine ⟨_, (pss_cons (ps_set (i := 6) sc_Setting__init.nd rfl (.inl rfl) (pe_callB call_len_seq (by rfl) (b_len T) PySem.boot_len (pa_cons (pv 1) pa_nil)))
 (pss_cons (ps_if (pt_not (pt_chain op_le op_le pe_int (pv 6) (pe_glob (v := .int 6) (by rfl) (i_MOST_HOPS T).choose_spec ⟨_, rfl⟩)))
 (pss_one ps_never)
 pss_nil)
 (pss_cons (ps_if (PW.pt (pw_and (pt_cmp (pc_notN (pv 3))) (pw_and1 (pt_cmpR op_ne (pe_callB call_len_seq (by rfl) (b_len T) PySem.boot_len (pa_cons (pv 3) pa_nil)) (pe_op op_add (pv 6) pe_int) (nomark _)))))
 (pss_one ps_never)
 pss_nil)
 (pss_cons (ps_if (PW.pt (pw_and (pt_cmp (pc_notN (pv 4))) (pw_and1 (pt_cmpR op_ne (pe_callB call_len_seq (by rfl) (b_len T) PySem.boot_len (pa_cons (pv 4) pa_nil)) (pv 6) (nomark _)))))
 (pss_one ps_never)
 pss_nil)
 (pss_cons (ps_if (PW.pt (pw_and (pt_cmp (pc_notN (pv 4))) (pw_and1 (pt_not (pt_val (pe_callB (cr_all rfl) (by rfl) (b_all T) (by decide +kernel) (pa_cons (pe_lc (own := [("delay", 7)]) (g := (gName 7)) (tt := tYes) rfl sc_Setting__init.nd (pi_list (pv 4)) (blkOk_by (own := [("delay", 7)]) (N := ["self", "makes", "kind", "clocks", "delays", "loses", "many_hops", "delay", "hop"]) (sc := defScope s_Setting__init) (by decide +kernel)) (fun _ _ _ _ _ => (pg_name (i := 7) sc_Setting__init.nd rfl (.inl rfl))) (fun _ _ _ _ _ => pts_nil) (fun _ _ _ _ _ => (pe_chain op_le op_le pe_int (pv 7) (pe_glob (v := .int 1000) (by rfl) (i_MOST_DELAY T).choose_spec ⟨_, rfl⟩)))) pa_nil)))))))
 (pss_one ps_never)
 pss_nil)
 (pss_cons (ps_fld (pv 0) (pe_callTy call_list_of (by rfl) (b_list T) (by decide +kernel) (pa_cons (pv 1) pa_nil)) rfl)
 (pss_cons (ps_fld (pv 0) (pv 2) rfl)
 (pss_cons (ps_fld (pv 0) (pe_ifExp (pt_cmp (pc_isN (pv 3))) (pe_lc (own := [("hop", 8)]) (g := (gName 8)) (tt := tYes) rfl sc_Setting__init.nd (pi_range1 (by rfl) (b_range T) (pa_cons (pe_op op_add (pv 6) pe_int) pa_nil)) (blkOk_by (own := [("hop", 8)]) (N := ["self", "makes", "kind", "clocks", "delays", "loses", "many_hops", "delay", "hop"]) (sc := defScope s_Setting__init) (by decide +kernel)) (fun _ _ _ _ _ => (pg_name (i := 8) sc_Setting__init.nd rfl (.inl rfl))) (fun _ _ _ _ _ => pts_nil) (fun _ _ _ _ _ => (pe_mk0 (ok_Clock__init T) hr (by decide) (by rfl)))) (pe_callTy call_list_of (by rfl) (b_list T) (by decide +kernel) (pa_cons (pv 3) pa_nil))) rfl)
 (pss_cons (ps_fld (pv 0) (pe_ifExp (pt_cmp (pc_isN (pv 4))) (pe_op op_rep (pe_lst (pa_cons pe_int pa_nil)) (pv 6)) (pe_callTy call_list_of (by rfl) (b_list T) (by decide +kernel) (pa_cons (pv 4) pa_nil))) rfl)
 (pss_one (ps_fld (pv 0) (pv 5) rfl))))))))))), ?_⟩
    have c := c_Setting T
    have len1 : ((ms.map V.ref).length : Nat) = s.makes.length := by rw [List.length_map, hml]
    refine sq_asg ⟨_, rfl, pm, _, rfl, .inl hms, ?_⟩
    rw [len1]
    refine seqM (t := tIfS _ _ _) (fun σ H' => σ = [some (.ref a), some (.ref pm), some (.ref pk), some cv, some dv, some (.bl false), some (.int (s.makes.length : Nat)), none, none] ∧ Same H H') (fun Nx hNx => ?_) ?_
    · refine ⟨_, rfl, _, _, rfl, rfl, _, rfl, iteTd (by omega) ⟨_, _, rfl, rfl, _, rfl, ?_⟩⟩
      rw [decide_eq_true (show (s.makes.length : Int) ≤ 6 by omega)]
      exact iteF (hNx _ _ ⟨rfl, Same.refl _⟩)
    rintro _ H1 ⟨rfl, e1⟩
    refine seqM (t := tIfS _ _ _) (fun σ H' => σ = [some (.ref a), some (.ref pm), some (.ref pk), some cv, some dv, some (.bl false), some (.int (s.makes.length : Nat)), none, none] ∧ Same H H') (fun Nx hNx => ?_) ?_
    · rcases hcv with rfl | ⟨p, cs, rfl, h1, h2, h3⟩
      · exact ⟨_, rfl, _, rfl, iteF (hNx _ _ ⟨rfl, e1⟩)⟩
      · refine ⟨_, rfl, _, rfl, iteT ⟨_, rfl, p, _, rfl, .inl (Evl.ex_l e1 h1), _, rfl, _, _, rfl, rfl, rfl, _, rfl, ?_⟩⟩
        rw [show (!decide (V.int ((cs.map V.ref).length : Nat) = V.int ((s.makes.length : Nat) + 1))) = false by rw [List.length_map, h2]; simp]
        exact iteF (hNx _ _ ⟨rfl, e1⟩)
    rintro _ H2 ⟨rfl, e2⟩
    refine seqM (t := tIfS _ _ _) (fun σ H' => σ = [some (.ref a), some (.ref pm), some (.ref pk), some cv, some dv, some (.bl false), some (.int (s.makes.length : Nat)), none, none] ∧ Same H H') (fun Nx hNx => ?_) ?_
    · rcases hdv with rfl | ⟨p, rfl, h1⟩
      · exact ⟨_, rfl, _, rfl, iteF (hNx _ _ ⟨rfl, e2⟩)⟩
      · refine ⟨_, rfl, _, rfl, iteT ⟨_, rfl, p, _, rfl, .inl (Evl.ex_l e2 h1), _, rfl, rfl, _, rfl, ?_⟩⟩
        rw [show (!decide (V.int ((List.replicate s.makes.length (V.int 0)).length : Nat) = V.int (s.makes.length : Nat))) = false by rw [List.length_replicate]; simp]
        exact iteF (hNx _ _ ⟨rfl, e2⟩)
    rintro _ H3 ⟨rfl, e3⟩
    refine seqM (t := tIfS _ _ _) (fun σ H' => σ = [some (.ref a), some (.ref pm), some (.ref pk), some cv, some dv, some (.bl false), some (.int (s.makes.length : Nat)), none, none] ∧ Same H H') (fun Nx hNx => ?_) ?_
    · rcases hdv with rfl | ⟨p, rfl, h1⟩
      · exact ⟨_, rfl, _, rfl, iteF (hNx _ _ ⟨rfl, e3⟩)⟩
      · refine ⟨_, rfl, _, rfl, iteT ⟨_, rfl, p, rfl, ⟨_, Evl.ex_l e3 h1⟩, fun D hD => ?_⟩⟩
        refine lc_mapR (walk_list (xs := List.replicate s.makes.length (V.int 0))) (fun i v _ => ∃ x, (List.replicate s.makes.length ())[i]? = some x ∧ v = .bl true) (fun i v _ _ _ r => r) (by rw [List.length_replicate]; exact Nat.le_trans n6 (by decide)) hD (fun H' e => Evl.ex_l (e3.trans e) h1) ?_ ?_
        · rintro i x H4 H5 Z hi e ⟨rfl, hx⟩ kz
          rw [List.length_replicate] at hi
          rw [List.getElem?_replicate, if_pos hi] at hx
          cases hx
          refine ⟨rfl, _, rfl, _, _, rfl, rfl, _, rfl, iteT ⟨_, _, rfl, rfl, ?_⟩⟩
          exact kz _ _ ⟨(), by rw [List.getElem?_replicate, if_pos hi], rfl⟩ (Same.refl _)
        intro H4 acc e4 hDacc hlacc hRR
        have hacc := acc_eq (xs := List.replicate s.makes.length ()) (g := fun _ => V.bl true) (by rw [hlacc]; simp) hRR
        subst hacc
        refine ⟨D, (List.replicate s.makes.length ()).map fun _ => true, rfl, .of (by rw [hDacc]; simp), true, ?_, ?_⟩
        · rw [show ((List.replicate s.makes.length ()).map fun _ => true).all id = true by simp]
        · exact iteF (hNx _ _ ⟨rfl, e3.trans e4⟩)
    rintro _ H4 ⟨rfl, e4⟩
    have ha4 := e4 _ _ ha
    refine ⟨_, rfl, pm, _, rfl, .inl (Evl.ex_l e4 hms), fun l1 hl1 => ?_⟩
    have ha5 := (same_new (o := .lst (ms.map V.ref)) hl1) _ _ ha4
    have e5 : Same H (upd H4 l1 (.lst (ms.map V.ref))) := e4.trans (same_new hl1)
    refine ⟨_, rfl, a, _, dx, _, rfl, ha5, c, n_Setting_makes T, by decide, ?_⟩
    have k5 : KeptBut a H (upd (upd H4 l1 (.lst (ms.map V.ref))) a (.ins (He.ga K "Setting") dx (putF "makes" (.ref l1) []))) := (KeptBut.of e5).upd'
    have l1a : l1 ≠ a := fun z => by rw [z, ha4] at hl1; cases hl1
    have hl15 : (upd (upd H4 l1 (.lst (ms.map V.ref))) a (.ins (He.ga K "Setting") dx (putF "makes" (.ref l1) []))) l1 = some (.lst (ms.map V.ref)) := by rw [upd_ne l1a]; exact upd_same
    have ha6 : (upd (upd H4 l1 (.lst (ms.map V.ref))) a (.ins (He.ga K "Setting") dx (putF "makes" (.ref l1) []))) a = some (.ins (He.ga K "Setting") dx (putF "makes" (.ref l1) [])) := upd_same
    generalize upd (upd H4 l1 (.lst (ms.map V.ref))) a (.ins (He.ga K "Setting") dx (putF "makes" (.ref l1) [])) = H6 at k5 hl15 ha6
    refine stepF rfl rfl c (KeptBut.of (Same.refl H6)) ha6 (n_Setting_kind T) (Nat.le_trans (putF_le (Nat.zero_le 0)) (by decide)) fun H7 k67 ha7 => ?_
    have k7 := k5.comp k67
    have hl17 := k67 _ _ hl15 l1a
    have nolst : ∀ {H : Hp} {q : Addr} {xs : List V} {C dx : Addr} {fs : List (Str × V)}, H q = some (.lst xs) → H a = some (.ins C dx fs) → q ≠ a := fun h1 h2 z => by rw [z, h2] at h1; cases h1
    refine seqM (t := sFld _ _ _ _) (fun σ H' => σ = [some (.ref a), some (.ref pm), some (.ref pk), some cv, some dv, some (.bl false), some (.int (s.makes.length : Nat)), none, none] ∧ KeptBut a H H' ∧ H' l1 = some (.lst (ms.map V.ref)) ∧ ∃ (q : Addr) (cs : List Addr), H' q = some (.lst (cs.map V.ref)) ∧ cs.length = s.makes.length + 1 ∧ (∀ x ∈ cs, ClockAt K H' x) ∧
      H' a = some (.ins (He.ga K "Setting") dx (putF "clocks" (.ref q) (putF "kind" (.ref pk) (putF "makes" (.ref l1) [])))) ∧ H q = none) (fun Nx hNx => ?_) ?_
    · have fin : ∀ (H8 : Hp) (q : Addr) (cs : List Addr), Same H7 H8 → H8 q = some (.lst (cs.map V.ref)) → cs.length = s.makes.length + 1 → H7 q = none → (∀ x ∈ cs, ClockAt K H8 x) →
          Nx [some (.ref a), some (.ref pm), some (.ref pk), some cv, some dv, some (.bl false), some (.int (s.makes.length : Nat)), none, none] (upd H8 a (.ins (He.ga K "Setting") dx (putF "clocks" (.ref q) (putF "kind" (.ref pk) (putF "makes" (.ref l1) []))))) := fun H8 q cs e8 hq hcl hq7 hcs => by
        have ha8 := e8 _ _ ha7
        refine hNx _ _ ⟨rfl, (k7.trans e8).upd', by rw [upd_ne l1a]; exact e8 _ _ hl17, q, cs, by rw [upd_ne (nolst hq ha8)]; exact hq, hcl, fun x hx => ?_, upd_same, k7.free ha7 hq7⟩
        obtain ⟨dc, hc⟩ := hcs x hx
        refine ⟨dc, ?_⟩
        have : x ≠ a := fun z => by
          rw [z, ha8] at hc
          have h1 := (HO.ins.inj (Option.some.inj hc)).2.2
          have h2 := congrArg (fun fs : List (Str × V) => fs.lookup ("makes" : Str)) h1
          have h3 : (putF ("kind" : Str) (V.ref pk) (putF "makes" (.ref l1) [])).lookup ("makes" : Str) = some (.ref l1) := by kernel_rfl
          have h4 : ([("behind", V.int 0), ("ahead", .int 0)] : List (Str × V)).lookup ("makes" : Str) = none := by kernel_rfl
          rw [h3, h4] at h2
          cases h2
        rw [upd_ne this]; exact hc
      rcases hcv with rfl | ⟨p, cs, rfl, h1, h2, h3⟩
      · refine ⟨_, rfl, _, rfl, iteT ⟨_, rfl, _, _, rfl, rfl, _, rfl, by omega, by omega, fun D hD => ?_⟩⟩
        rw [show ((s.makes.length : Int) + 1).toNat = s.makes.length + 1 by omega]
        refine lc_mapR walk_range (fun i v H' => ∃ cx, v = .ref cx ∧ ClockAt K H' cx) (fun i v H1 H2 e ⟨cx, q1, q2⟩ => ⟨cx, q1, q2.monoL e⟩) (Nat.le_trans (Nat.succ_le_succ n6) (by decide)) hD (fun _ _ => trivial) ?_ ?_
        · rintro i x H9 H10 Z hi e ⟨rfl, rfl⟩ kz
          refine ⟨rfl, fun x dx' hx hdx hne => ?_⟩
          exact ⟨x, dx', rfl, upd_same, fun H' h1 h2 => ⟨rfl, kz _ _ ⟨x, rfl, h2⟩ (made_same (Same.refl _) hx hdx hne h1)⟩⟩
        intro H8 acc e8 hDacc hlacc hRR
        obtain ⟨cs, rfl⟩ := refs_of (acc := acc) fun v hv => by
          obtain ⟨i, hi⟩ := List.mem_iff_getElem?.mp hv
          obtain ⟨cx, h1, _⟩ := hRR i v hi
          exact ⟨cx, h1⟩
        rw [List.length_map] at hlacc
        refine ⟨_, rfl, a, _, dx, _, rfl, e8 _ _ ha7, c, n_Setting_clocks T, Nat.lt_of_le_of_lt (putF_le (putF_le (Nat.zero_le 0))) (by decide), fin H8 D cs e8 hDacc hlacc hD fun x hx => ?_⟩
        obtain ⟨i, hi⟩ := List.mem_iff_getElem?.mp hx
        obtain ⟨cx, h1, h2⟩ := hRR i (.ref x) (by rw [List.getElem?_map, hi]; rfl)
        cases h1; exact h2
      · have nl : ∀ {q : Addr} {xs : List V}, H q = some (.lst xs) → q ≠ a := fun h z => by rw [z, ha] at h; cases h
        have nf : ∀ {q : Addr} {o : Obj} {xs : List V}, H q = some (.frz o (.lst xs)) → q ≠ a := fun h z => by rw [z, ha] at h; cases h
        have h17 : SqL K H7 p (cs.map V.ref) := by
          rcases h1 with (h | ⟨o, h⟩) | h
          · exact .inl (.inl (k7 _ _ h (nl h)))
          · exact .inl (.inr ⟨o, k7 _ _ h (nf h)⟩)
          · exact .inr h
        refine ⟨_, rfl, _, rfl, iteF ⟨_, rfl, p, cs.map V.ref, rfl, .inl h17, fun l2 hl2 => ⟨_, rfl, a, _, dx, _, rfl, (same_new hl2) _ _ ha7, c, n_Setting_clocks T, Nat.lt_of_le_of_lt (putF_le (putF_le (Nat.zero_le 0))) (by decide), fin _ l2 cs (same_new hl2) upd_same h2 hl2 fun x hx => ?_⟩⟩⟩
        obtain ⟨dc, hc⟩ := h3 x hx
        have nx : x ≠ a := fun z => by
          rw [z, ha] at hc
          have h1 := (HO.ins.inj (Option.some.inj hc)).2.2
          cases h1
        exact ⟨dc, (same_new hl2) _ _ (k7 _ _ hc nx)⟩
    rintro _ H8 ⟨rfl, k8, hl18, q, cs, hq, hcl, hcs, ha8, hq0⟩
    have qa : q ≠ a := nolst hq ha8
    refine seqM (t := sFld _ _ _ _) (fun σ H' => σ = [some (.ref a), some (.ref pm), some (.ref pk), some cv, some dv, some (.bl false), some (.int (s.makes.length : Nat)), none, none] ∧ KeptBut a H H' ∧ KeptBut a H8 H' ∧ ∃ (r : Addr), H' r = some (.lst (List.replicate s.makes.length (V.int 0))) ∧
      H' a = some (.ins (He.ga K "Setting") dx (putF "delays" (.ref r) (putF "clocks" (.ref q) (putF "kind" (.ref pk) (putF "makes" (.ref l1) []))))) ∧ H r = none) (fun Nx hNx => ?_) ?_
    · have lf : (putF ("clocks" : Str) (V.ref q) (putF "kind" (.ref pk) (putF "makes" (.ref l1) []))).length < 1000 := Nat.lt_of_le_of_lt (putF_le (putF_le (putF_le (Nat.zero_le 0)))) (by decide)
      have fin : ∀ (H9 : Hp) (r : Addr), Same H8 H9 → H9 r = some (.lst (List.replicate s.makes.length (V.int 0))) → H8 r = none →
          Nx [some (.ref a), some (.ref pm), some (.ref pk), some cv, some dv, some (.bl false), some (.int (s.makes.length : Nat)), none, none] (upd H9 a (.ins (He.ga K "Setting") dx (putF "delays" (.ref r) (putF "clocks" (.ref q) (putF "kind" (.ref pk) (putF "makes" (.ref l1) [])))))) := fun H9 r e9 hr hr8 =>
        hNx _ _ ⟨rfl, (k8.trans e9).upd', (KeptBut.of e9).upd', r, by rw [upd_ne (nolst hr (e9 _ _ ha8))]; exact hr, upd_same, k8.free ha8 hr8⟩
      rcases hdv with rfl | ⟨p, rfl, h1⟩
      · refine ⟨_, rfl, _, rfl, iteT ⟨by show 1 ≤ sizeLine; decide, fun z hz => ⟨_, rfl, z, (s.makes.length : Int), [.int 0], rfl, rfl, upd_same, by omega, by omega, ?_, fun r hr => ⟨_, rfl, a, _, dx, _, rfl, (same_new hr) _ _ ((same_new hz) _ _ ha8), c, n_Setting_delays T, lf, fin _ r ((same_new hz).trans (same_new hr)) ?_ ((same_new hz).free hr)⟩⟩⟩⟩
        · rw [Int.toNat_natCast]; exact Nat.le_trans (m := 1 * 6) (Nat.mul_le_mul_left _ n6) (by decide)
        · rw [upd_same, Int.toNat_natCast]
          have : ∀ n : Nat, (List.replicate n [V.int 0]).flatten = List.replicate n (V.int 0) := fun n => by
            induction n with
            | zero => rfl
            | succ n ih => rw [List.replicate_succ, List.flatten_cons, ih]; rfl
          rw [this]
      · have nl : ∀ {q : Addr} {xs : List V}, H q = some (.lst xs) → q ≠ a := fun h z => by rw [z, ha] at h; cases h
        have nf : ∀ {q : Addr} {o : Obj} {xs : List V}, H q = some (.frz o (.lst xs)) → q ≠ a := fun h z => by rw [z, ha] at h; cases h
        have h18 : SqL K H8 p (List.replicate s.makes.length (V.int 0)) := by
          rcases h1 with (h | ⟨o, h⟩) | h
          · exact .inl (.inl (k8 _ _ h (nl h)))
          · exact .inl (.inr ⟨o, k8 _ _ h (nf h)⟩)
          · exact .inr h
        exact ⟨_, rfl, _, rfl, iteF ⟨_, rfl, p, _, rfl, .inl h18, fun r hr => ⟨_, rfl, a, _, dx, _, rfl, (same_new hr) _ _ ha8, c, n_Setting_delays T, lf, fin _ r (same_new hr) upd_same hr⟩⟩⟩
    rintro _ H9 ⟨rfl, k9, k89, r, hr, ha9, hr0⟩
    have ra : r ≠ a := nolst hr ha9
    refine stepL rfl rfl c (KeptBut.of (Same.refl H9)) ha9 (n_Setting_loses T) (Nat.le_trans (putF_le (putF_le (putF_le (putF_le (Nat.zero_le 0))))) (by decide)) fun H10 k910 ha10 => ?_
    have k10 := k9.comp k910
    have k810 := k89.comp k910
    have nz : ∀ {q : Addr} {C dx' : Addr} {f : Str × V} {fs : List (Str × V)}, H q = some (.ins C dx' (f :: fs)) → q ≠ a := fun h z => by
      rw [z, ha] at h
      have h1 := (HO.ins.inj (Option.some.inj h)).2.2
      cases h1
    refine k H10 k10 ⟨dx, l1, pk, q, r, ms, cs, s.makes.length, ⟨ha10.trans (congrArg (fun fs => some (HO.ins (He.ga K "Setting") dx fs)) (by kernel_rfl)), .of (k810 _ _ hl18 l1a), hml, fun i m hi => ?_, ?_, .of (k810 _ _ hq qa), ⟨by omega, by omega⟩, fun x hx => ?_, .of (k910 _ _ hr ra), by omega⟩, e4.free hl1, hq0, hr0⟩
    · obtain ⟨am, h1, dm, h2⟩ := hmat i m hi
      exact ⟨am, h1, dm, k10 _ _ h2 (nz h2)⟩
    · obtain ⟨dk, h2⟩ := hk
      exact ⟨dk, k10 _ _ h2 (nz h2)⟩
    · obtain ⟨dc, h2⟩ := hcs x hx
      refine ⟨dc, k810 _ _ h2 fun z => ?_⟩
      rw [z, ha8] at h2
      have h1 := (HO.ins.inj (Option.some.inj h2)).2.2
      have h5 := congrArg (fun fs : List (Str × V) => fs.lookup ("makes" : Str)) h1
      have h3 : (putF ("clocks" : Str) (V.ref q) (putF ("kind" : Str) (V.ref pk) (putF "makes" (.ref l1) []))).lookup ("makes" : Str) = some (.ref l1) := by kernel_rfl
      have h4 : ([("behind", V.int 0), ("ahead", .int 0)] : List (Str × V)).lookup ("makes" : Str) = none := by kernel_rfl
      rw [h3, h4] at h5
      cases h5
theorem mk_Setting2 (T : TT K mg) : MakK P w K mg base 3 "Setting" (He.ga K "Setting") 2 ["clocks", "delays"] (fun vs zs => vs ++ (zs ++ [V.bl false])) (sp_Setting__init K) :=
  (ok_Setting__init T).mak (k_Setting T) (g_Setting T) 2 ["clocks", "delays"] [("loses", .bl false)] (fun us mv ws => us ++ (ws ++ mv)) (by simp) (by simp)
    (fun r1 r2 r3 => r1.append (r3.append r2)) fun D doc pm an cdv ct us mv ws l1 l2 l3 => match us, mv, ws, l1, l2, l3 with
      | [_, _, _], [_], [_, _], _, _, _ => ⟨_, _, _, _, _, _, rfl, rfl, rfl⟩
theorem mk_Setting0 (T : TT K mg) : C8.Mak P w K mg base 3 "Setting" (He.ga K "Setting") (sp_Setting__init K) [.non, .non, .bl false] :=
  (ok_Setting__init T).mak0 (k_Setting T) (g_Setting T) 3 (by simp) rfl fun D doc pm an cdv ct us ks l1 l2 => match us, ks, l1, l2 with
      | [_, _, _], [_, _, _], _, _ => ⟨_, _, _, _, _, _, rfl, rfl, _, _, _, _, _, _, rfl, rfl, _, _, _, _, _, _, rfl, rfl, rfl⟩
end
end K98
set_option Elab.async false
set_option linter.all false
set_option maxRecDepth 100000
set_option maxHeartbeats 4000000
/-! an __init__ of a plain class whose last statement is super().__init__(k = v, ..) -/
namespace Ru
open PySem PySem.Spec PyProof.Rows L2 NdefX
/-- what must stand behind the top: the cell of __class__ (the class at D), the def's code object, the next __init__ (at f2) -/
structure SupX (K : PySem.W.Frag) (D f2 cc cda : Addr) (file : Str) : Prop where
  cell : ∃ cl cld csl, K.lookup cc = some ⟨cl, cld, .cell (some (.ref D)), csl⟩
  code : ∃ ccl cdd vs ccs tf, K.lookup cda = some ⟨ccl, cdd, .fields vs, ccs⟩ ∧ vs[2]? = some (.str file tf)
  sup : PySem.W.ks_superIn K D D "__init__" = some (some (.ref f2))
  sub : PySem.W.mroIn K D (.ref D) = some true
  opq : PySem.W.nsIn K cStatics "thirdparty.any" = some none
  ty : PySem.W.typeIn K (.ref f2) = some (.type "function")
  fi : PySem.W.fnIn K f2 = true
theorem wpAt_methK {M : Model} {A : Around} {c : Code} {E : Value → Shared → Prop} {s : Shared} {env : Env} {o : Expr} {name : Str} {apos pos : Pos} {kws : List Keyword} {pl : Sem Bool} {Q : Value → Shared → Prop}
    (h : _root_.PySem.wpAt M A c (attributeBase o name env (eval o env)) (fun ov s₁ => wpAny M A (getMethod ov name pl) (fun fx s₂ => wpAny M A (callWith pos fx.1 fx.2 (backTo pos (starEach [] env)) (backToKw pos (keywordEach kws env))) Q E s₂) E s₁) E s)
    (he : eval (.Call (.Attribute o name apos) [] kws pos) env = (do
      let ov ← attributeBase o name env (eval o env)
      standAt apos.atName
      let (f, first) ← holding [ov] (getMethod ov name pl)
      callWith pos f first (backTo pos (starEach [] env)) (backToKw pos (keywordEach kws env))) := by rfl) :
    _root_.PySem.wpAt M A c (eval (.Call (.Attribute o name apos) [] kws pos) env) Q E s := by
  rw [he]
  refine _root_.PySem.wpAt_bind (_root_.PySem.wpAt_mono h (fun ov s₁ h₁ => _root_.PySem.wpAt_of_wpAny (wpAny_bind (wpAny_standAt (wpAny_bind (wpAny_holding (wpAny_mono h₁ (fun fx s₂ h₂ => ?_) fun _ _ x => x)))))) fun _ _ x => x)
  exact h₂
theorem fn_super {P : Program} {w : World} {K : PySem.W.Frag} {mg : Str → Option Value} {base : Heap} {k : Nat} {f f2 D cc cda : Addr} {x qual file : Str} {params : Arguments} {sIf : Stmt} {scope : Scope} {dV kV doc pm ct oc : Value} {an od : Option Addr} {osl : Array (Option Value)}
    {N ps ks : List Str} {sp sp2 : Sp} {fd2 : FuncData} {ps2 : List Str} {g : List Value → List Value → List Value} {gV : List V → List V → List V} {p0 p1 apos cpos epos : Pos} {kws : List Keyword} {ar : Arg}
    (lk : K.lookup f = some ⟨oc, od, .func (PySem.W.fnX x qual params [sIf, .Expr (.Call (.Attribute (.Call (.Name "super" p0) [] [] p1) "__init__" apos) [] kws cpos) epos] scope [("__class__", cc)] dV kV doc pm an (.ref cda) ct), osl⟩)
    (hcd : PySem.W.codeIn K (.ref cda) qual = true) (SX : SupX K D f2 cc cda file) (hsup : mg "super" = none) (hfile : ((P.main.file : Str) == file) = true) (htop : (P.main.scope.names.lookup ("super" : Str)).isSome = false)
    (hks : scope.names.lookup ("super" : Str) = some .globalImplicit) (hkc : scope.names.lookup ("__class__" : Str) = some .free) (hp : (params.posonlyargs ++ params.args).head? = some ar) (hself : scope.names.lookup ar.arg = some .local)
    (S : NScope N ps ["__class__"] scope) (h0 : N[0]? = some ar.arg) (F2 : FnOk P w K mg base CX0 k f2 fd2 ps2 sp2) (B2 : KBn K fd2 ps2 1 ks g gV)
    (hall : ∀ env : Env, (backToKw cpos (keywordEach kws env)).all (·.1.isSome) = true) (hkn : ∀ env : Env, (backToKw cpos (keywordEach kws env)).filterMap (·.1) = ks)
    (hpl : ∀ env : Env, ((backTo cpos (starEach [] env)).any (·.1) || (backToKw cpos (keywordEach kws env)).any (·.1.isNone)) = false)
    (hsw : ∀ env : Env, swapsWith (.Call (.Attribute (.Call (.Name "super" p0) [] [] p1) "__init__" apos) [] kws cpos) none epos.line env = pure false)
    (pl : Env → Sem Bool)
    (he : ∀ env : Env, eval (.Call (.Attribute (.Call (.Name "super" p0) [] [] p1) "__init__" apos) [] kws cpos) env = (do
      let ov ← attributeBase (.Call (.Name "super" p0) [] [] p1) "__init__" env (eval (.Call (.Name "super" p0) [] [] p1) env)
      standAt apos.atName
      let (f, first) ← holding [ov] (getMethod ov "__init__" (pl env))
      callWith cpos f first (backTo cpos (starEach [] env)) (backToKw cpos (keywordEach kws env))))
    (len : ∀ vs H Q E, sp vs H Q E → vs.length = ps.length)
    (hbody : ∀ (A : Around) (outer : List Env) (s : Shared) (H : Hp) (vs : List V) (Q : VK) (E : XK), Room k (A.deeper (envF ⟨x, qual, params, [sIf, .Expr (.Call (.Attribute (.Call (.Name "super" p0) [] [] p1) "__init__" apos) [] kws cpos) epos], scope, [("__class__", cc)], cda⟩ f s.heap.objs.size)) → sp vs H Q E →
      ∃ t tk, PS (ncx CX0 P w K mg base N ⟨x, qual, params, [sIf, .Expr (.Call (.Attribute (.Call (.Name "super" p0) [] [] p1) "__init__" apos) [] kws cpos) epos], scope, [("__class__", cc)], cda⟩ f A outer s H E) sIf t ∧ PK (ncx CX0 P w K mg base N ⟨x, qual, params, [sIf, .Expr (.Call (.Attribute (.Call (.Name "super" p0) [] [] p1) "__init__" apos) [] kws cpos) epos], scope, [("__class__", cc)], cda⟩ f A outer s H E) kws tk ∧
        t { nx := fun σ H1 => ∃ z dx fs, σ[0]? = some (some (.ref z)) ∧ H1 z = some (.ins D dx fs) ∧ tk σ H1 fun zs H2 => zs.length = ks.length ∧ sp2 (gV [.ref z] zs) H2 (fun _ H3 => Q .non H3) E0, rt := fun _ _ => False } (startF N vs [some (.ref D)]) H) :
    FnOk P w K mg base CX0 (k + 1) f (PySem.W.fnX x qual params [sIf, .Expr (.Call (.Attribute (.Call (.Name "super" p0) [] [] p1) "__init__" apos) [] kws cpos) epos] scope [("__class__", cc)] dV kV doc pm an (.ref cda) ct) ps sp := by
  refine ⟨len, fun A outer s H args us vs Q E hr e0 hb r hsp => ?_⟩
  have hl := len _ _ _ _ hsp
  have KX : K.In s.heap := e0.mod.kin.keeps fun b o e => (e0.bs b o e).1
  have lim : s.heap.NoLimit := e0.mod.nolimit.keeps fun b o e => (e0.bs b o e).1
  obtain ⟨cl, cld, csl, hcell⟩ := SX.cell
  obtain ⟨ccl, cdd, cvs, ccs, tf, hcode, hcvs⟩ := SX.code
  have hlc : ∀ y c, ([("__class__", cc)] : List (Str × Addr)).lookup y = some c → y = "__class__" ∧ c = cc := fun y c e => by
    rw [List.lookup_cons] at e
    split at e
    · rename_i q
      exact ⟨by simpa using q, (Option.some.inj e).symm⟩
    · cases e
  let F : NF := ⟨x, qual, params, [sIf, .Expr (.Call (.Attribute (.Call (.Name "super" p0) [] [] p1) "__init__" apos) [] kws cpos) epos], scope, [("__class__", cc)], cda⟩
  have C : CellsAt F.cl ["__class__"] [some (V.ref D)] s.heap H := by
    refine ⟨rfl, fun y c e => ?_, fun y1 y2 c e1 e2 => (hlc _ _ e1).1.trans (hlc _ _ e2).1.symm, fun i y hi => ?_⟩
    · obtain ⟨_, rfl⟩ := hlc y c e
      exact ⟨(e0.bs _ _ (e0.mod.kin _ _ hcell)).2, _, _, KX _ _ hcell, rfl⟩
    · cases i with
      | zero =>
        cases hi
        refine ⟨cc, rfl, fun v hv => ?_⟩
        cases hv
        exact ⟨.ref D, rfl, _, KX _ _ hcell, rfl⟩
      | succ i => cases hi
  refine codeAny_call_function hr.depth (KX _ _ lk) rfl S.co S.gen rfl (PySem.W.codeRec_of KX hcd) (hb _ _ _ _ ?_)
  refine wpAny_newFunctionEnv S.nocell (fun ⟨n, _⟩ hy => S.par n (List.of_mem_zip hy).1) (fun h₁ hns hsb => ⟨lim.fresh _ hsb, ?_⟩) S.kind
  show codeAny _ _ (.func F.body (envF F f s.heap.objs.size)) _ _
  refine ks_codeAny_funcAt ?_
  have kp : ∀ b o, s.heap.get? b = some o → h₁.get? b = some o := fun b o e => hsb.extBut b o (Nat.ne_of_lt (Heap.lt_size e)) (Heap.get?_push_of_some _ e)
  obtain ⟨t, tk, ht, hk, hq⟩ := hbody A outer s H vs Q E (hr.deeper _) hsp
  have I : Inv (ncx CX0 P w K mg base N F f A outer s H E) [] (startF N vs [some (.ref D)]) H { s with heap := h₁, toks := s.toks + (ps.zip us).length } := inv_startN S hr.hd e0 hl r C hns kp
  refine ks_wpAt_execs_cons (_root_.PySem.wpAt_of_wpAny (wpAny_mono (ht.run [] _ _ H _ I hq) (fun fl s' hs => ?_) fun e s' hs => hs))
  cases fl with
  | ret u => obtain ⟨_, _, _, _, _, z⟩ := hs; exact z.elim
  | brk => obtain ⟨_, _, _, z⟩ := hs; exact z.elim
  | cont => obtain ⟨_, _, _, z⟩ := hs; exact z.elim
  | next =>
    obtain ⟨σ1, H1, I1, z, dx, fs, hz, hins, hq1⟩ := hs
    dsimp only
    refine ks_wpAt_execs_cons (ks_wpAt_Expr_any ?_ (by unfold interactive; rw [show (envF F f s.heap.objs.size).scope.kind = .function from S.kind]; rfl) (hsw _))
    have KX1 := I1.kIn
    obtain ⟨mA, O, rr, _, _, _⟩ := ins_get I1.hok hins
    obtain ⟨odx, J, hlk⟩ := O.look
    obtain ⟨m, hns1, hm1⟩ := I1.loc
    have hmz : m ar.arg = some (.ref z) := by
      obtain ⟨u, ru, hu⟩ := hm1 0 ar.arg (.ref z) h0 hz (.inl hself)
      obtain rfl : u = Value.ref z := ru
      rcases hu with hu | ⟨hu, _⟩
      · exact hu.2
      · have hu : scope.names.lookup ar.arg = some .cell ∨ scope.names.lookup ar.arg = some .free := hu
        rw [hself] at hu
        rcases hu with hu | hu <;> cases hu
    cases hcd2 : PySem.W.clsIn K D with
    | none => have := SX.sup; unfold PySem.W.ks_superIn at this; rw [hcd2] at this; cases this
    | some cd =>
      have hal := SX.sup
      unfold PySem.W.ks_superIn at hal
      rw [hcd2] at hal
      have hal : PySem.W.alongIn K "__init__" ((cd.mro.dropWhile (· != .ref D)).drop 1) = some (some (.ref f2)) := hal
      obtain ⟨oD, hD1, hD2⟩ : ∃ oD, s'.heap.get? D = some oD ∧ oD.data = .cls cd := by
        have hD := hcd2
        unfold PySem.W.clsIn at hD
        split at hD
        · rename_i ho
          cases hD
          exact ⟨_, KX1 _ _ ho, rfl⟩
        · cases hD
      obtain ⟨of, hof, hofc⟩ : ∃ of, K.lookup f2 = some of ∧ of.cls = .type "function" := by
        have ht' : (K.lookup f2).map (·.cls) = some (.type "function") := SX.ty
        cases zz : K.lookup f2 with
        | none => rw [zz] at ht'; cases ht'
        | some of => rw [zz] at ht'; exact ⟨of, rfl, Option.some.inj ht'⟩
      have hzD : z ≠ D := PySem.W.ks_ne KX1 J hcd2
      obtain ⟨hh, g1, d1, t1, os1⟩ := s'
      refine wpAt_methK ?_ (he _)
      refine ks_wpAt_super_base (env := envF F f s.heap.objs.size) hks hkc rfl rfl (KX1 _ _ lk) rfl hp rfl (KX1 _ _ hcode) rfl hcvs hfile htop ?_
      obtain ⟨mb, b1, b2⟩ := I1.mod.blt
      refine PySem.W.ks_loadName_global S.kind hks (Calls.loadGlobal_builtin (show hh.Ns mainGlobals mg from I1.mod.glob.keeps I1.bk) hsup (show hh.Ns builtinsNs mb from b1.keeps I1.bk) ((b2 _ (by decide)).trans (show bootBuiltins "super" = some (.type "super") by decide +kernel)) ⟨rfl, ?_⟩)
      refine wpAny_loadName_free S.kind hkc rfl ⟨_, KX1 _ _ hcell, rfl⟩ ?_
      refine wpAny_loadName_local S.kind hself hns1 hmz ?_
      refine ks_wpAny_isType_cls hD1 hD2 ⟨rfl, ?_⟩
      refine ks_wpAny_call_super hD1 hD2 J.at_ J.cls (fun c e => ?_) (PySem.W.looks_mroIn KX1 SX.sub) (fun h' hso kp2 => ?_)
      · have := J.no
        unfold PySem.W.notCls at this
        rw [e] at this
        cases this
      have I2 := ClX.pin_new (t' := t1) I1 kp2 (Nat.le_refl _) hso (fun v e => nomatch e)
      have KX2 := I2.kIn
      refine ks_wpAny_getMethod_super hso (PySem.W.looks_opaque KX2 SX.opq) (l₀ := cd.mro) (fun A Q E s k q => wpAny_bind ((PySem.W.looks_clsIn KX2 hcd2) A _ E s k (wpAny_pure q))) rfl KX2 hal (KX2 _ _ hof) hofc hzD rfl ?_
      have I3 := ClX.pin_new (t' := t1 + 1) I2 (fun b o e => Heap.get?_push_of_some _ e) (Nat.le_refl _) (Heap.get?_push_size h' rfl : (h'.push (PySem.W.methodObj (.ref f2) (.ref z))).get? h'.objs.size = some (PySem.W.methodObj (.ref f2) (.ref z))) (fun v e => nomatch e)
      dsimp only
      refine PySem.W.callWith_of (hpl _) (PySem.W.keeps_M (K := K) (q := h'.objs.size) (f := f2) (self := .ref z) SX.fi) (evalArgs_kw2_nil (hall _) ?_)
      refine thn (hk.run cpos _ _ σ1 H1 _ I3 hq1) fun ws s4 ⟨zs, H2, I4, rz, l2, q2⟩ => ⟨⟨ClX.pin_at I4, I4.kIn⟩, ?_⟩
      rw [hkn]
      have r2 := B2.rel (show Vals [V.ref z] [Value.ref z] from .cons rfl .nil) rz
      refine wpAny_call (PySem.W.method_call (ClX.pin_at I4) (codeAny_mono (F2.run _ _ s4 H2 ⟨[.ref z], ks.zip ws⟩ (g [.ref z] ws) _ _ E0 (hr.deeper _) I4.env0 (B2.to s4 [.ref z] ws I4.kIn rfl (rz.length.symm.trans l2)) r2 q2) fun r s5 hq5 => ?_))
      cases r with
      | error e => exact hq5.elim
      | ok fl =>
        cases fl with
        | next => exact hq5.elim
        | brk => exact hq5.elim
        | cont => exact hq5.elim
        | ret u =>
          obtain ⟨v, H', J5, rv, q5⟩ := I4.after hq5
          dsimp only
          refine _root_.PySem.wpAt_of_wpAny (wpAny_execs_nil ?_)
          exact ⟨.non, H', J5.os, J5.bare, J5.base, J5.hok, rfl, q5⟩
end Ru
set_option Elab.async false
set_option linter.all false
set_option maxRecDepth 100000
set_option maxHeartbeats 4000000
namespace K98
open PySem PySem.Spec PyProof.Rows L2 Ru He6 TL NdefX
open C8 (Cal pe_c)
/-- the program of the row -/
class IsP (P : Program) : Prop where
  e : P = PySem.Challenge.pw_hopkeep_k98_alike_is_an_order_of_equals
theorem clB_ok {K : PySem.W.Frag} {f D f2 : Addr} {file x qual : Str} {params : Arguments} {body : List Stmt} {scope : Scope} {clo : List (Str × Addr)} {dV kV doc pm cdv ct oc : Value} {an od : Option Addr} {osl : Array (Option Value)}
    (lk : K.lookup f = some ⟨oc, od, .func (PySem.W.fnX x qual params body scope clo dV kV doc pm an cdv ct), osl⟩) (h : He6.clB K f D f2 file = true) : ∃ cc cda, clo = [(("__class__" : Str), cc)] ∧ cdv = .ref cda ∧ SupX K D f2 cc cda file := by
  unfold He6.clB at h
  rw [lk] at h
  obtain ⟨h1, h2⟩ := He.ba h
  obtain ⟨h3, h4⟩ := He.ba h1
  obtain ⟨h5, h6⟩ := He.ba h2
  obtain ⟨h7, h8⟩ := He.ba h6
  obtain ⟨h9, h10⟩ := He.ba h8
  obtain ⟨h11, h12⟩ := He.ba h10
  dsimp only at h3 h4
  obtain ⟨cc, rfl, hcell⟩ : ∃ cc, clo = [(("__class__" : Str), cc)] ∧ ∃ cl cld csl, K.lookup cc = some ⟨cl, cld, .cell (some (.ref D)), csl⟩ := by
    cases clo with
    | nil => cases h3
    | cons q r =>
      obtain ⟨y, cc⟩ := q
      cases r with
      | cons _ _ => cases h3
      | nil =>
        obtain ⟨k1, k2⟩ := He.ba h3
        have e1 : y = "__class__" := of_decide_eq_true k1
        subst e1
        refine ⟨cc, rfl, ?_⟩
        cases q : K.lookup cc with
        | none => rw [q] at k2; cases k2
        | some o =>
          obtain ⟨c1, c2, c3, c4⟩ := o
          rw [q] at k2
          cases c3 with
          | cell v =>
            cases v with
            | none => cases k2
            | some v =>
              cases v with
              | ref a =>
                have e2 : a = D := of_decide_eq_true k2
                subst e2
                exact ⟨_, _, _, rfl⟩
              | _ => cases k2
          | _ => cases k2
  obtain ⟨cda, rfl, hcode⟩ : ∃ cda, cdv = .ref cda ∧ ∃ ccl cdd vs ccs tf, K.lookup cda = some ⟨ccl, cdd, .fields vs, ccs⟩ ∧ vs[2]? = some (.str file tf) := by
    cases cdv with
    | ref cda =>
      refine ⟨cda, rfl, ?_⟩
      dsimp only at h4
      cases q : K.lookup cda with
      | none => rw [q] at h4; cases h4
      | some o =>
        obtain ⟨c1, c2, c3, c4⟩ := o
        rw [q] at h4
        cases c3 with
        | fields vs =>
          obtain ⟨l⟩ := vs
          match l, h4 with
          | _ :: _ :: .str n t :: _, h4 =>
            have e2 : n = file := of_decide_eq_true h4
            subst e2
            exact ⟨_, _, _, _, t, rfl, rfl⟩
        | _ => cases h4
    | _ => cases h4
  refine ⟨cc, cda, rfl, rfl, hcell, hcode, ?_, of_decide_eq_true h7, He.eqO_ok h9, of_decide_eq_true h11, h12⟩
  unfold PySem.W.ks_superIn
  cases q : PySem.W.clsIn K D with
  | none => rw [q] at h5; cases h5
  | some cd => rw [q] at h5; exact He.eqO_ok h5
abbrev kwOwn : List (Str × V) := [(("shared" : Str), V.bl false), (("grace" : Str), V.int (0)), (("error_grace" : Str), V.int (0)), (("tells" : Str), V.bl true), (("dates" : Str), V.bl false), (("checks" : Str), V.bl true), (("share" : Str), V.int (0)), (("cap" : Str), V.int (0)), (("durable" : Str), V.bl false), (("room" : Str), V.int (8))]
theorem nsc_Own : NScope ["self", "shared", "grace", "error_grace", "tells", "dates", "checks", "share", "cap", "durable", "room", "__class__"] ["self", "shared", "grace", "error_grace", "tells", "dates", "checks", "share", "cap", "durable", "room"] ["__class__"] (defScope s_OwnMake__init) := nscope_by (by decide +kernel)
def sp_OwnMake__init (K : PySem.W.Frag) : Sp := fun vs H Q E => ∃ m : MakeD, m.shared = false ∧ m.tag = 2 ∧ sp_Make__init K vs H Q E ∧ ∃ a dx, vs = [.ref a, .bl false, .int m.grace, .int m.egrace, .bl m.tells, .bl m.dates, .bl m.checks, .int m.share, .int m.cap, .bl m.durable, .int m.room] ∧ H a = some (.ins (He.ga K "OwnMake") dx [])
section
variable {P : Program} [IsP P] {w : World} {K : PySem.W.Frag} {mg : Str → Option Value} {base : Heap}
theorem ok_OwnMake__init (T : TT K mg) : ∃ fd, (∃ (oc : Value) (od : Option Addr) (clo : List (Str × Addr)) (dV kV doc pm : Value) (an : Option Addr) (cdv ct : Value) (osl : Array (Option Value)),
    fd = PySem.W.fnX "__init__" "OwnMake.__init__" (defArgs s_OwnMake__init) (defBody s_OwnMake__init) (defScope s_OwnMake__init) clo dV kV doc pm an cdv ct ∧ K.lookup (He.ma K (He.ga K "OwnMake") "__init__") = some ⟨oc, od, .func fd, osl⟩ ∧ DflV K dV [] ∧ KwdV K kV kwOwn) ∧
    FnOk P w K mg base CX0 2 (He.ma K (He.ga K "OwnMake") "__init__") fd ["self", "shared", "grace", "error_grace", "tells", "dates", "checks", "share", "cap", "durable", "room"] (sp_OwnMake__init K) := by
  obtain ⟨oc, od, clo, dV, kV, doc, pm, an, cdv, ct, osl, lk, hcd, hD, hK⟩ := (f_OwnMake__init T).ex
  obtain ⟨cc, cda, rfl, rfl, SX⟩ := clB_ok lk (x_18 T)
  refine ⟨_, ⟨oc, od, _, dV, kV, doc, pm, an, _, ct, osl, rfl, lk, hD, hK⟩, ?_⟩
  obtain ⟨fd2, D2, F2⟩ := (ok_Make__init (P := P) (w := w) (base := base) T).ex
  obtain ⟨mv, B2⟩ := D2.kbinds0 (ps := ["self", "shared", "grace", "error_grace", "tells", "dates", "checks", "share", "cap", "durable", "room"]) 1 ["shared", "grace", "error_grace", "tells", "dates", "checks", "share", "cap", "durable", "room"] [] (fun us mv ws => us ++ (mv ++ ws)) (by simp) (by simp)
    (fun r1 r2 r3 => r1.append (r2.append r3)) fun D doc pm an cdv ct us mv ws l1 l2 l3 => match us, mv, ws, l1, l2, l3 with
      | [_], [], [_, _, _, _, _, _, _, _, _, _], _, _, _ => rfl
  have hP : P = _ := IsP.e
  refine fn_super lk hcd SX (b_super T) (by rw [hP]; exact beq_self_eq_true _) (by rw [hP]; decide +kernel) (by rfl) (by rfl) (by rfl) (by rfl) nsc_Own rfl F2 B2 (fun _ => rfl) (fun _ => rfl) (fun _ => rfl) (fun _ => rfl) (fun _ => _) (fun _ => by rfl) (fun vs H Q E h => ?_) (fun A outer s H vs Q E hr h => ?_)
  · obtain ⟨m, _, _, _, a, dx, rfl, _⟩ := h; rfl
  · obtain ⟨m, hs, ht, ⟨a, dx, m', hvs, hok, ha', k⟩, a2, dx2, rfl, ha⟩ := h
    refine ⟨_, _, ps_if (pt_val (pv 1)) (pss_one ps_never) pss_nil, pk_cons pe_bl (pk_cons (pv 2) (pk_cons (pv 3) (pk_cons (pv 4) (pk_cons (pv 5) (pk_cons (pv 6) (pk_cons (pv 7) (pk_cons (pv 8) (pk_cons (pv 9) (pk_cons (pv 10) pk_nil))))))))), ?_⟩
    have e1 : a2 = a := by injection hvs with z _; injection z
    subst e1
    refine ⟨_, rfl, _, rfl, ?_⟩
    refine iteF ?_
    refine ⟨a2, dx2, [], rfl, ha, ?_⟩
    refine ⟨_, rfl, _, rfl, _, rfl, _, rfl, _, rfl, _, rfl, _, rfl, _, rfl, _, rfl, rfl, a2, dx, m', hvs, hok, ha', k⟩
theorem mk_OwnMake (T : TT K mg) : MakK P w K mg base 2 "OwnMake" (He.ga K "OwnMake") 0 ["grace", "error_grace", "tells", "dates", "checks", "share", "cap", "durable", "room"] (fun vs zs => vs ++ ([V.bl false] ++ zs)) (sp_OwnMake__init K) := by
  obtain ⟨fd, ⟨oc, od, clo, dV, kV, doc, pm, an, cdv, ct, osl, rfl, lk, hD, hK⟩, F⟩ := ok_OwnMake__init (P := P) (w := w) (base := base) T
  rcases hD with ⟨_, rfl⟩ | ⟨e, _⟩
  · rcases hK with e | ⟨D, rfl, hq⟩
    · cases e
    · obtain ⟨mv, hl, rk, hks⟩ := kwd_vals (ms := [(("shared" : Str), V.bl false)]) fun q hm => hq q (by rw [List.mem_singleton.mp hm]; exact List.mem_cons_self ..)
      refine ⟨_, _, _, fun us ws => us ++ (mv ++ ws), k_OwnMake T, F, g_OwnMake T, fun s us ws X l1 l2 => BindsTo.of_looks fun M => KwChain.looks X hks ?_, fun r1 r2 => r1.append (rk.append r2)⟩
      match us, mv, ws, l1, hl, l2 with
      | [_], [_], [_, _, _, _, _, _, _, _, _], _, _, _ => exact ⟨_, _, _, _, _, _, rfl, rfl, rfl⟩
  · exact absurd rfl e
end
end K98
set_option Elab.async false
set_option linter.all false
set_option maxRecDepth 100000
set_option maxHeartbeats 4000000
namespace K98
open PySem PySem.Spec PyProof.Rows L2 Ru He6 TL
open C8 (Cal pe_c)
theorem dec_nat (n m : Nat) : decide (L2.V.int (n : Nat) = L2.V.int (m : Nat)) = decide (n = m) := by
  by_cases h : n = m
  · subst h; simp
  · rw [decide_eq_false h, decide_eq_false fun z => h (by injection z with z; exact Int.ofNat.inj z)]
theorem dec_n0 (n : Nat) : decide (L2.V.int (n : Nat) = L2.V.int 0) = decide (n = 0) := dec_nat n 0
/-- what _law_make makes -/
structure MadeM (m : MakeD) (sort spare : Nat) (tells dates trusts : Bool) : Prop where
  tl : m.tells = tells
  dt : m.dates = dates
  ck : trusts = false → m.checks = false
  sh : m.shared = decide (sort = 0)
  st : m.tag = 1 → spare = 0
  gr : m.tag ≠ 1 → m.grace = (spare : Int)
section
variable {P : Program} [IsP P] {w : World} {K : PySem.W.Frag} {mg : Str → Option Value} {base : Heap}
theorem sc_law_make : FnScope ["_law_bag_here", "_law_sort", "_law_spare", "_law_row", "_law_trusts", "_law_solid", "_law_firm", "_law_lots", "_law_patience", "_law_keen"] ["_law_bag_here", "_law_sort", "_law_spare", "_law_row", "_law_trusts", "_law_solid"] (defScope s_law_make) := ⟨rfl, rfl, rfl, by decide +kernel, rfl, by decide +kernel, by decide +kernel⟩
def sp_law_make (K : PySem.W.Frag) : Sp := fun vs H Q _ => ∃ (b g : Addr) (c sort spare : Nat) (pr : Addr) (lim : Int) (tells dates trusts solid : Bool), vs = [.ref b, .int sort, .int spare, .ref pr, .bl trusts, .bl solid] ∧ BagAt H b g c ∧ b ≠ g ∧ c ≤ 5000 ∧ SqT K H pr [.int lim, .bl tells, .bl dates] ∧ ∀ a m H', MadeM m sort spare tells dates trusts → Kept2 b g H H' → BagAt H' b g (c + 5) → MakeAt K H' a m → Q (.ref a) H'
theorem ok_law_make (T : TT K mg) : Cal P w K mg base 4 "_law_make" (sp_law_make K) [] := by
  refine cal_of (f_law_make T) (g_law_make T) sc_law_make (fun _ _ _ _ _ _ us hl => match us, hl with | [_, _, _, _, _, _], _ => rfl) (fun vs H Q E h => ?_) (fun cdv A outer s H vs Q E hr h => ?_)
  · obtain ⟨b, g, c, sort, spare, pr, lim, tells, dates, trusts, solid, rfl, hb, hne, hc, hpr, k⟩ := h; rfl
  · obtain ⟨b, g, c, sort, spare, pr, lim, tells, dates, trusts, solid, rfl, hb, hne, hc, hpr, k⟩ := h
    refine ⟨_, (pss_cons (ps_set (i := 6) sc_law_make.nd rfl (.inl rfl) (pe_and (pe_cmpR op_eq (pv 2) pe_int (nomark _)) (pe_one (pe_cmpR op_eq (pe_c (ok_law_take T) hr (by decide) (by rfl) (pa_cons (pv 0) (pa_cons pe_int pa_nil))) pe_int (nomark _)))))
      (pss_cons (ps_set (i := 7) sc_law_make.nd rfl (.inl rfl) (pe_op op_add pe_int (pe_c (ok_law_take T) hr (by decide) (by rfl) (pa_cons (pv 0) (pa_cons pe_int pa_nil)))))
      (pss_cons (ps_set (i := 8) sc_law_make.nd rfl (.inl rfl) (pe_c (ok_law_take T) hr (by decide) (by rfl) (pa_cons (pv 0) (pa_cons pe_int pa_nil))))
      (pss_cons (ps_set (i := 9) sc_law_make.nd rfl (.inl rfl) (pe_and (pv 4) (pe_one (pe_cmpR op_ne (pe_c (ok_law_take T) hr (by decide) (by rfl) (pa_cons (pv 0) (pa_cons pe_int pa_nil))) pe_int (nomark _)))))
      (pss_cons (ps_if (pt_val (pv 6))
      (pss_one (ps_ret (pe_mkK0 (mk_StrictMake T) hr (by decide) (by rfl) (pk_cons (pe_cmpR op_eq (pv 1) pe_int (nomark _)) (pk_cons (pe_c (ok_law_take T) hr (by decide) (by rfl) (pa_cons (pv 0) (pa_cons pe_int pa_nil))) (pk_cons (pv 8) (pk_cons (pe_ix ix_tup (pv 3) pe_int (fun _ _ => rfl)) (pk_cons (pe_ix ix_tup (pv 3) pe_int (fun _ _ => rfl)) (pk_cons (pv 9) (pk_cons (pv 5) (pk_cons (pv 7) pk_nil)))))))))))
      pss_nil)
      (pss_cons (ps_if (pt_cmpR op_eq (pv 1) pe_int (nomark _))
      (pss_one (ps_ret (pe_mkK0 (mk_OwnMake (P := P) T) hr (by decide) (by rfl) (pk_cons (pv 2) (pk_cons (pv 8) (pk_cons (pe_ix ix_tup (pv 3) pe_int (fun _ _ => rfl)) (pk_cons (pe_ix ix_tup (pv 3) pe_int (fun _ _ => rfl)) (pk_cons (pv 9) (pk_cons pe_int (pk_cons pe_int (pk_cons (pv 5) (pk_cons (pv 7) pk_nil))))))))))))
      pss_nil)
      (pss_one (ps_ret (pe_mkK0 (mk_Make T) hr (by decide) (by rfl) (pk_cons (pe_cmpR op_eq (pv 1) pe_int (nomark _)) (pk_cons (pv 2) (pk_cons (pv 8) (pk_cons (pe_ix ix_tup (pv 3) pe_int (fun _ _ => rfl)) (pk_cons (pe_ix ix_tup (pv 3) pe_int (fun _ _ => rfl)) (pk_cons (pv 9) (pk_cons (pv 5) (pk_cons (pv 7) pk_nil))))))))))))))))), ?_⟩
    have kpr : ∀ {H'}, Kept2 b g H H' → SqT K H' pr [.int lim, .bl tells, .bl dates] := fun {H'} k => by
      have sl := k.sl hb
      rcases hpr with (h | ⟨o, h⟩) | h
      · exact .inl (.inl (sl _ _ h trivial))
      · exact .inl (.inr ⟨o, sl _ _ h trivial⟩)
      · exact .inr h
    refine seqM (t := tAsg _ _) (fun σ H' => ∃ firm : Bool, σ = [some (.ref b), some (.int sort), some (.int spare), some (.ref pr), some (.bl trusts), some (.bl solid), some (.bl firm), none, none, none] ∧ Kept2 b g H H' ∧ BagAt H' b g (c + 1) ∧ (firm = true → spare = 0)) (fun Nx hNx => ?_) ?_
    · refine ⟨_, rfl, rfl, _, rfl, ?_⟩
      cases hs : decide (V.int (spare : Nat) = V.int 0) with
      | false =>
        refine iteF ?_
        exact hNx _ _ ⟨false, rfl, .refl _, hb.le (by omega), fun z => by cases z⟩
      | true =>
        refine iteT ?_
        refine ⟨_, rfl, b, g, c, 4, rfl, hb, hne, by decide, by decide, by omega, fun r H1 hr1 k1 b1 => ?_⟩
        refine ⟨rfl, ?_⟩
        exact hNx _ _ ⟨_, rfl, k1, b1, fun _ => by have z := of_decide_eq_true hs; injection z with z; omega⟩
    rintro _ H1 ⟨firm, rfl, k1, b1, hf⟩
    refine sq_asg ⟨_, rfl, b, g, _, 8, rfl, b1, hne, by decide, by decide, by omega, fun r2 H2 hr2 k2 b2 => ⟨_, _, rfl, rfl, ?_⟩⟩
    dsimp only
    refine sq_asg ⟨_, rfl, b, g, _, 4, rfl, b2, hne, by decide, by decide, by omega, fun r3 H3 hr3 k3 b3 => ?_⟩
    dsimp only
    have k03 := (k1.trans k2).trans k3
    refine seqM (t := tAsg _ _) (fun σ H' => ∃ keen : Bool, σ = [some (.ref b), some (.int sort), some (.int spare), some (.ref pr), some (.bl trusts), some (.bl solid), some (.bl firm), some (.int (1 + (r2 : Nat))), some (.int (r3 : Nat)), some (.bl keen)] ∧ Kept2 b g H H' ∧ BagAt H' b g (c + 4) ∧ (trusts = false → keen = false)) (fun Nx hNx => ?_) ?_
    · refine ⟨_, rfl, _, rfl, ?_⟩
      cases trusts with
      | false =>
        refine iteF ?_
        exact hNx _ _ ⟨false, rfl, k03, b3.le (by omega), fun _ => rfl⟩
      | true =>
        refine iteT ?_
        refine ⟨_, rfl, b, g, _, 3, rfl, b3, hne, by decide, by decide, by omega, fun r4 H4 hr4 k4 b4 => ?_⟩
        refine ⟨rfl, ?_⟩
        exact hNx _ _ ⟨_, rfl, k03.trans k4, b4, fun z => by cases z⟩
    rintro _ H4 ⟨keen, rfl, k04, b4, hkn⟩
    have hroom : (1 : Int) ≤ 1 + (r2 : Nat) ∧ (1 : Int) + (r2 : Nat) ≤ 100 := by omega
    refine seqM (t := tIfS _ _ _) (fun σ H' => σ = [some (.ref b), some (.int sort), some (.int spare), some (.ref pr), some (.bl trusts), some (.bl solid), some (.bl firm), some (.int (1 + (r2 : Nat))), some (.int (r3 : Nat)), some (.bl keen)] ∧ H4 = H') (fun Nx hNx => ?_) ?_
    · cases firm with
      | false =>
        refine ⟨_, rfl, _, rfl, ?_⟩
        refine iteF ?_
        exact hNx _ _ ⟨rfl, rfl⟩
      | true =>
        have hs0 := hf rfl
        refine ⟨_, rfl, _, rfl, ?_⟩
        refine iteT ?_
        refine ⟨_, rfl, rfl, _, rfl, b, g, _, 3, rfl, b4, hne, by decide, by decide, by omega, fun r5 H5 hr5 k5 b5 => ?_⟩
        have k05 := k04.trans k5
        refine ⟨_, rfl, _, rfl, _, _, _, _, rfl, rfl, kpr k05, rfl, _, rfl, _, _, _, _, rfl, rfl, kpr k05, rfl, _, rfl, _, rfl, _, rfl, rfl, rfl, fun x dx hx hdx hne2 => ?_⟩
        refine ⟨x, dx, ⟨1, decide (V.int (sort : Nat) = V.int 0), (r5 : Nat), (r3 : Nat), tells, dates, keen, 0, 0, solid, 1 + (r2 : Nat)⟩, rfl, ⟨by show (0 : Int) ≤ (r5 : Nat); omega, by show (0 : Int) ≤ (r3 : Nat); omega, by show (0 : Int) ≤ 0; omega, by show (0 : Int) ≤ 100; omega, by show (0 : Int) ≤ 0; omega, hroom.1, hroom.2⟩, upd_same, fun H' h1 h2 => ⟨rfl, ?_⟩⟩
        have e := made_same (Same.refl _) hx hdx hne2 h1
        exact k x _ H' ⟨rfl, rfl, hkn, dec_n0 _, fun _ => hs0, fun z => absurd rfl z⟩ (k05.trans (.of e)) (b5.mono e) h2
    rintro _ _ ⟨rfl, rfl⟩
    refine seqM (t := tIfS _ _ _) (fun σ H' => σ = [some (.ref b), some (.int sort), some (.int spare), some (.ref pr), some (.bl trusts), some (.bl solid), some (.bl firm), some (.int (1 + (r2 : Nat))), some (.int (r3 : Nat)), some (.bl keen)] ∧ H4 = H') (fun Nx hNx => ?_) ?_
    · refine ⟨_, rfl, rfl, _, rfl, ?_⟩
      cases hs : decide (V.int (sort : Nat) = V.int 2) with
      | false =>
        refine iteF (hNx _ _ ⟨rfl, rfl⟩)
      | true =>
        have hs2 : sort = 2 := by have z := of_decide_eq_true hs; injection z with z; omega
        refine iteT ?_
        refine ⟨_, rfl, _, rfl, _, rfl, _, _, _, _, rfl, rfl, kpr k04, rfl, _, rfl, _, _, _, _, rfl, rfl, kpr k04, rfl, _, rfl, _, rfl, _, rfl, rfl, rfl, fun x dx hx hdx hne2 => ?_⟩
        let m : MakeD := ⟨2, false, (spare : Nat), (r3 : Nat), tells, dates, keen, 50, 7, solid, 1 + (r2 : Nat)⟩
        refine ⟨m, rfl, rfl, ⟨x, dx, m, rfl, ⟨by show (0 : Int) ≤ (spare : Nat); omega, by show (0 : Int) ≤ (r3 : Nat); omega, by show (0 : Int) ≤ 50; omega, by show (50 : Int) ≤ 100; omega, by show (0 : Int) ≤ 7; omega, hroom.1, hroom.2⟩, upd_same, fun H' h1 h2 => ⟨rfl, ?_⟩⟩, x, dx, rfl, upd_same⟩
        have e := made_same (Same.refl _) hx hdx hne2 h1
        exact k x _ H' ⟨rfl, rfl, hkn, by rw [hs2]; rfl, (fun z => by cases z), fun _ => rfl⟩ (k04.trans (.of e)) ((b4.mono e).le (by omega)) h2
    rintro _ _ ⟨rfl, rfl⟩
    refine ⟨_, rfl, rfl, _, rfl, _, rfl, _, rfl, _, _, _, _, rfl, rfl, kpr k04, rfl, _, rfl, _, _, _, _, rfl, rfl, kpr k04, rfl, _, rfl, _, rfl, _, rfl, rfl, rfl, fun x dx hx hdx hne2 => ?_⟩
    refine ⟨x, dx, ⟨0, decide (V.int (sort : Nat) = V.int 0), (spare : Nat), (r3 : Nat), tells, dates, keen, 0, 0, solid, 1 + (r2 : Nat)⟩, rfl, ⟨by show (0 : Int) ≤ (spare : Nat); omega, by show (0 : Int) ≤ (r3 : Nat); omega, by show (0 : Int) ≤ 0; omega, by show (0 : Int) ≤ 100; omega, by show (0 : Int) ≤ 0; omega, hroom.1, hroom.2⟩, upd_same, fun H' h1 h2 => ⟨rfl, ?_⟩⟩
    have e := made_same (Same.refl _) hx hdx hne2 h1
    exact k x _ H' ⟨rfl, rfl, hkn, dec_n0 _, (fun z => by cases z), fun _ => rfl⟩ (k04.trans (.of e)) ((b4.mono e).le (by omega)) h2
end
end K98
set_option Elab.async false
set_option linter.all false
set_option maxRecDepth 100000
set_option maxHeartbeats 4000000
namespace K98
open PySem PySem.Spec PyProof.Rows L2 Ru He6 TL
open C8 (Cal pe_c)
/-- the life of an answer that a make of this sort keeps -/
def lifeN (common : Option Nat) (base sort : Nat) : Nat := if sort = 0 then common.getD base else base
theorem made_lim {m : MakeD} {kd : KindD} {sort spare : Nat} {lim : Int} {tells dates trusts : Bool} (hm : MadeM m sort spare tells dates trusts) (hl : kd.late ≤ spare) (hs : kd.strict = true → spare = 0) (hsp : (spare : Int) = lim - (lifeN kd.shared kd.lasts sort : Nat)) : limOf m kd = lim := by
  have h1 : lifeOf m kd = (lifeN kd.shared kd.lasts sort : Nat) := by
    unfold lifeOf lifeN
    rw [hm.sh]
    by_cases c : sort = 0
    · rw [if_pos (decide_eq_true c), if_pos c]
      cases kd.shared <;> rfl
    · rw [if_neg (by simpa using c), if_neg c]
  have h2 : allowOf m kd = (spare : Int) := by
    unfold allowOf
    by_cases c : m.tag = 1
    · rw [if_pos c, hm.st c]; rfl
    · rw [if_neg c]
      by_cases d : kd.strict = true
      · rw [if_pos d, hs d]; rfl
      · rw [if_neg d, hm.gr c]
        unfold max3
        split <;> split <;> omega
  unfold limOf
  rw [h1, h2, hsp]
  omega
/-- what is known of the makes made so far -/
def MadeAt (K : PySem.W.Frag) (H : Hp) (sorts spares : List Nat) (ch : Chain) (trusts : Bool) (ms : List Addr) : Prop := ∃ mk : List MakeD, mk.length = ms.length ∧ ∀ (i : Nat) (a : Addr), ms[i]? = some a → ∃ m h so sp, mk[i]? = some m ∧ ch[i]? = some h ∧ sorts[i]? = some so ∧ spares[i]? = some sp ∧ MadeM m so sp h.tells h.dates trusts ∧ MakeAt K H a m
theorem MadeAt.monoL {K : PySem.W.Frag} {H H' : Hp} {sorts spares : List Nat} {ch : Chain} {trusts : Bool} {ms : List Addr} (e : SameL H H') (h : MadeAt K H sorts spares ch trusts ms) : MadeAt K H' sorts spares ch trusts ms := by
  obtain ⟨mk, h1, h2⟩ := h
  refine ⟨mk, h1, fun i a hi => ?_⟩
  obtain ⟨m, h, so, sp, q1, q2, q3, q4, q5, dx, q6⟩ := h2 i a hi
  exact ⟨m, h, so, sp, q1, q2, q3, q4, q5, dx, e _ _ q6 trivial⟩
theorem MadeAt.snoc {K : PySem.W.Frag} {H : Hp} {sorts spares : List Nat} {ch : Chain} {trusts : Bool} {ms : List Addr} {a : Addr} {m : MakeD} {h : Hop} {so sp : Nat} (x : MadeAt K H sorts spares ch trusts ms) (q2 : ch[ms.length]? = some h) (q3 : sorts[ms.length]? = some so) (q4 : spares[ms.length]? = some sp) (q5 : MadeM m so sp h.tells h.dates trusts) (q6 : MakeAt K H a m) : MadeAt K H sorts spares ch trusts (ms ++ [a]) := by
  obtain ⟨mk, h1, h2⟩ := x
  refine ⟨mk ++ [m], by simp [h1], fun i b hi => ?_⟩
  by_cases c : i < ms.length
  · rw [List.getElem?_append_left c] at hi
    obtain ⟨m', h', so', sp', p1, p2⟩ := h2 i b hi
    exact ⟨m', h', so', sp', by rw [List.getElem?_append_left (by omega)]; exact p1, p2⟩
  · rw [List.getElem?_append_right (by omega)] at hi
    have hz : i - ms.length = 0 := by
      have := (List.getElem?_eq_some_iff.mp hi).1
      simp at this; omega
    rw [hz] at hi
    cases hi
    have hi2 : i = ms.length := by omega
    subst hi2
    exact ⟨m, h, so, sp, by rw [List.getElem?_append_right (by omega), h1]; simp, q2, q3, q4, q5, q6⟩
theorem nats_of {p : Nat → Prop} : ∀ {acc : List V}, (∀ v ∈ acc, ∃ r : Nat, v = V.int (r : Nat) ∧ p r) → ∃ l : List Nat, acc = l.map (fun n : Nat => V.int (n : Nat)) ∧ ∀ x ∈ l, p x
  | [], _ => ⟨[], rfl, fun _ h => nomatch h⟩
  | v :: vs, h => by
    obtain ⟨r, rfl, h1⟩ := h v (List.mem_cons_self ..)
    obtain ⟨l, e1, e2⟩ := nats_of (acc := vs) (p := p) fun x hx => h x (List.mem_cons_of_mem _ hx)
    refine ⟨r :: l, by rw [e1]; rfl, fun x hx => ?_⟩
    rcases List.mem_cons.mp hx with q | q
    · rw [q]; exact h1
    · exact e2 x q
def sparesOf (ch : Chain) (so : List Nat) (common : Option Nat) (base : Nat) : List Nat := List.zipWith (fun (h : Hop) (s : Nat) => (h.lim - ((lifeN common base s : Nat) : Int)).toNat) ch so
theorem spares_get {ch : Chain} {so : List Nat} {common : Option Nat} {base i : Nat} {h : Hop} {s : Nat} (h1 : ch[i]? = some h) (h2 : so[i]? = some s) (hl : ((lifeN common base s : Nat) : Int) ≤ h.lim) : ∃ sp : Nat, (sparesOf ch so common base)[i]? = some sp ∧ (sp : Int) = h.lim - (lifeN common base s : Nat) := by
  refine ⟨(h.lim - (lifeN common base s : Nat)).toNat, ?_, by omega⟩
  unfold sparesOf
  rw [List.getElem?_zipWith, h1, h2]
theorem life_le {common : Option Nat} {base lo s : Nat} (hb : base ≤ lo) (hc : ∀ n, common = some n → n ≤ lo) : lifeN common base s ≤ lo := by
  unfold lifeN
  split
  · cases common with
    | none => exact hb
    | some n => exact hc n rfl
  · exact hb
theorem ClkArg.mono {K : PySem.W.Frag} {H H' : Hp} {n : Nat} {v : V} (e : Same H H') : ClkArg K H n v → ClkArg K H' n v
  | .inl h => .inl h
  | .inr ⟨p, cs, h1, h2, h3, h4⟩ => .inr ⟨p, cs, h1, Evl.ex_l e h2, h3, fun c hc => let ⟨dx, q⟩ := h4 c hc; ⟨dx, e _ _ q⟩⟩
theorem DlyArg.mono {K : PySem.W.Frag} {H H' : Hp} {n : Nat} {v : V} (e : Same H H') : DlyArg K H n v → DlyArg K H' n v
  | .inl h => .inl h
  | .inr ⟨p, h1, h2⟩ => .inr ⟨p, h1, Evl.ex_l e h2⟩
def signs : List Str := ["strong", "strong", "none", "none", "weak"]
theorem sign_at {i : Nat} (h : i < 5) : ∃ x, signs[i]? = some x ∧ (x = "strong" ∨ x = "weak" ∨ x = "none") ∧ (x = "weak" → i = 4) := by
  match i, h with
  | 0, _ => exact ⟨_, rfl, .inl rfl, fun z => absurd z (by decide)⟩
  | 1, _ => exact ⟨_, rfl, .inl rfl, fun z => absurd z (by decide)⟩
  | 2, _ => exact ⟨_, rfl, .inr (.inr rfl), fun z => absurd z (by decide)⟩
  | 3, _ => exact ⟨_, rfl, .inr (.inr rfl), fun z => absurd z (by decide)⟩
  | 4, _ => exact ⟨_, rfl, .inr (.inl rfl), fun _ => rfl⟩
theorem and_mid {x : Bool} {tb : TE} {σ : L2.St} {H : Hp} {Q : VK} (R : Bool → Hp → Prop) (h1 : x = true → ∀ Z : VK, (∀ st H', R st H' → Z (.bl st) H') → tb σ H Z) (h2 : x = false → R false H) (h3 : ∀ st H', R st H' → Q (.bl st) H') : ∃ c, V.bl x = .bl c ∧ if c = true then tb σ H Q else Q (.bl false) H := by
  refine ⟨x, rfl, ?_⟩
  cases x with
  | true => exact iteT (h1 rfl Q h3)
  | false => exact iteF (h3 _ _ (h2 rfl))
theorem SetNew.old {K : PySem.W.Frag} {b g a : Addr} {H0 H1 H2 H : Hp} {c : Nat} {s : SetD} (h : SetNew K H2 H a s) (e : Same H1 H2) (k : Kept2 b g H0 H1) (hb : BagAt H1 b g c) : SetNew K H0 H a s := by
  obtain ⟨dx, pm, pk, pc, pd, ms, cs, nd, h1, h2, h3, h4⟩ := h
  exact ⟨dx, pm, pk, pc, pd, ms, cs, nd, h1, k.free hb (e.free h2), k.free hb (e.free h3), k.free hb (e.free h4)⟩
theorem made_set {K : PySem.W.Frag} {H : Hp} {so sps : List Nat} {ch : Chain} {trusts : Bool} {ms : List Addr} {kd : KindD} (h : MadeAt K H so sps ch trusts ms) (hl : ms.length = ch.length) (n1 : 1 ≤ ch.length) (n2 : ch.length ≤ 2) (hk : kdOk kd) (hlate : ∀ s ∈ sps, kd.late ≤ s) (hst : kd.strict = true → ∀ s ∈ sps, s = 0)
    (hsp : ∀ (i : Nat) (h : Hop) (s sp : Nat), ch[i]? = some h → so[i]? = some s → sps[i]? = some sp → (sp : Int) = h.lim - (lifeN kd.shared kd.lasts s : Nat)) (hw : trusts = true → kd.mark ≠ "weak" ∧ kd.margin ≠ 0) :
    ∃ s : SetD, s.kind = kd ∧ s.makes.length = ms.length ∧ (∀ (i : Nat) (m : MakeD), s.makes[i]? = some m → ∃ am, ms[i]? = some am ∧ MakeAt K H am m) ∧ SetOk s ∧ chainOf s = ch := by
  obtain ⟨mk, h1, h2⟩ := h
  have get : ∀ (i : Nat) (m : MakeD), mk[i]? = some m → ∃ a h s sp, ms[i]? = some a ∧ ch[i]? = some h ∧ so[i]? = some s ∧ sps[i]? = some sp ∧ MadeM m s sp h.tells h.dates trusts ∧ MakeAt K H a m := fun i m hi => by
    have hi2 : i < ms.length := by rw [← h1]; exact (List.getElem?_eq_some_iff.mp hi).1
    obtain ⟨m', h, s, sp, q1, q2, q3, q4, q5, q6⟩ := h2 i _ (List.getElem?_eq_getElem hi2)
    rw [hi] at q1
    cases q1
    exact ⟨_, h, s, sp, List.getElem?_eq_getElem hi2, q2, q3, q4, q5, q6⟩
  refine ⟨⟨mk, kd⟩, rfl, h1, fun i m hi => ?_, ⟨by show 1 ≤ mk.length; omega, by show mk.length ≤ 20; omega, hk, ?_⟩, ?_⟩
  · obtain ⟨a, _, _, _, q1, _, _, _, _, q6⟩ := get i m hi
    exact ⟨a, q1, q6⟩
  · cases trusts with
    | false =>
      refine .inl fun m hm => ?_
      obtain ⟨i, hi⟩ := List.mem_iff_getElem?.mp hm
      obtain ⟨_, _, _, _, _, _, _, _, q5, _⟩ := get i m hi
      exact q5.ck rfl
    | true =>
      obtain ⟨w1, w2⟩ := hw rfl
      exact .inr ⟨w1, fun z => w2 z.2.2⟩
  · show mk.map (fun m => (⟨limOf m kd, m.tells, m.dates⟩ : Hop)) = ch
    refine List.ext_getElem? fun i => ?_
    rw [List.getElem?_map]
    cases e : mk[i]? with
    | none =>
      have : mk.length ≤ i := List.getElem?_eq_none_iff.mp e
      rw [List.getElem?_eq_none (by omega)]; rfl
    | some m =>
      obtain ⟨a, h, s, sp, q1, q2, q3, q4, q5, q6⟩ := get i m e
      rw [q2]
      have hlim := made_lim (kd := kd) q5 (hlate sp (List.mem_of_getElem? q4)) (fun z => hst z sp (List.mem_of_getElem? q4)) (hsp i h s sp q2 q3 q4)
      show some (⟨limOf m kd, m.tells, m.dates⟩ : Hop) = some h
      rw [hlim, q5.tl, q5.dt]
section
variable {P : Program} [IsP P] {w : World} {K : PySem.W.Frag} {mg : Str → Option Value} {base : Heap}
theorem sc_law_setting : FnScope ["_law_bag_here", "_law_profile_here", "_law_solid", "_law_low", "_law_base", "_law_common", "_law_sorts", "_law_spares", "_law_k", "_law_life", "_law_bonus", "_law_sign", "_law_makes", "_law_kind", "_law_row"] ["_law_bag_here", "_law_profile_here", "_law_solid"] (defScope s_law_setting) := ⟨rfl, rfl, rfl, by decide +kernel, rfl, by decide +kernel, by decide +kernel⟩
def sp_law_setting (K : PySem.W.Frag) : Sp := fun vs H Q _ => ∃ (b g : Addr) (c : Nat) (p sl : Addr) (ch : Chain) (bs : List Bool), vs = [.ref b, .ref p, .ref sl] ∧ BagAt H b g c ∧ b ≠ g ∧ c ≤ 4000 ∧ ProfB K H b g p ch ∧ chOk ch ∧ H sl = some (.lst (bs.map V.bl)) ∧ bs.length = ch.length ∧ sl ≠ b ∧ sl ≠ g ∧ ∀ a s H', SetOk s → chainOf s = ch → Kept2 b g H H' → BagAt H' b g (c + 40) → SetNew K H H' a s → Q (.ref a) H'
theorem ok_law_setting (T : TT K mg) : Cal P w K mg base 6 "_law_setting" (sp_law_setting K) [] := by
  refine cal_of (f_law_setting T) (g_law_setting T) sc_law_setting (fun _ _ _ _ _ _ us hl => match us, hl with | [_, _, _], _ => rfl) (fun vs H Q E h => ?_) (fun cdv A outer s H vs Q E hr h => ?_)
  · obtain ⟨b, g, c, p, sl, ch, bs, rfl, hb, hne, hc, hpr, hch, hsl, hbl, sb, sg, k⟩ := h; rfl
  · obtain ⟨b, g, c, p, sl, ch, bs, rfl, hb, hne, hc, hpr, hch, hsl, hbl, sb, sg, k⟩ := h
    refine ⟨_, (pss_cons (ps_set (i := 3) sc_law_setting.nd rfl (.inl rfl) (pe_callB (cr_min rfl) (by rfl) (b_min T) (by decide +kernel) (pa_cons (pe_lc (own := [("_law_row", 14)]) (g := (gName 14)) (tt := tYes) rfl sc_law_setting.nd (pi_list (pv 1)) (blkOk_by (own := [("_law_row", 14)]) (N := ["_law_bag_here", "_law_profile_here", "_law_solid", "_law_low", "_law_base", "_law_common", "_law_sorts", "_law_spares", "_law_k", "_law_life", "_law_bonus", "_law_sign", "_law_makes", "_law_kind", "_law_row"]) (sc := defScope s_law_setting) (by decide +kernel)) (fun _ _ _ _ _ => (pg_name (i := 14) sc_law_setting.nd rfl (.inl rfl))) (fun _ _ _ _ _ => pts_nil) (fun _ _ _ _ _ => (pe_ix (r := rIxT K) ix_tup (pv 14) pe_int (fun _ _ => rfl)))) pa_nil)))
      (pss_cons (ps_set (i := 4) sc_law_setting.nd rfl (.inl rfl) (pe_c (ok_law_take T) hr (by decide) (by rfl) (pa_cons (pv 0) (pa_cons (pe_op op_add (pv 3) pe_int) pa_nil))))
      (pss_cons (ps_set (i := 5) sc_law_setting.nd rfl (.inl rfl) (pe_ix ix_list (pe_lst (pa_cons pe_non (pa_cons (pe_c (ok_law_take T) hr (by decide) (by rfl) (pa_cons (pv 0) (pa_cons (pe_op op_add (pv 3) pe_int) pa_nil))) pa_nil))) (pe_c (ok_law_take T) hr (by decide) (by rfl) (pa_cons (pv 0) (pa_cons pe_int pa_nil))) (fun _ _ => rfl)))
      (pss_cons (ps_setLc (i := 6) (own := [("_law_row", 14)]) (g := (gName 14)) (tt := tYes) rfl sc_law_setting.nd rfl rfl (sw_true rfl rfl rfl (by decide +kernel)) (pi_list (pv 1)) (blkOk_by (own := [("_law_row", 14)]) (N := ["_law_bag_here", "_law_profile_here", "_law_solid", "_law_low", "_law_base", "_law_common", "_law_sorts", "_law_spares", "_law_k", "_law_life", "_law_bonus", "_law_sign", "_law_makes", "_law_kind", "_law_row"]) (sc := defScope s_law_setting) (by decide +kernel)) (fun _ _ _ _ _ => (pg_name (i := 14) sc_law_setting.nd rfl (.inl rfl))) (fun _ _ _ _ _ => pts_nil) (fun _ _ _ _ _ => (pe_c (ok_law_take T) hr (by decide) (by rfl) (pa_cons (pv 0) (pa_cons pe_int pa_nil)))))
      (pss_cons (ps_set (i := 7) sc_law_setting.nd rfl (.inl rfl) (pe_lst pa_nil))
      (pss_cons (ps_for PassesOwn.never rfl (pi_range1 (by rfl) (b_range T) (pa_cons (pe_callB call_len_seq (by rfl) (b_len T) PySem.boot_len (pa_cons (pv 1) pa_nil)) pa_nil)) (pg_name (i := 8) sc_law_setting.nd rfl (.inl rfl))
      (pss_cons (ps_set (i := 9) sc_law_setting.nd rfl (.inl rfl) (pe_ifExp (PW.pt (pw_or (pt_cmp (pc_isN (pv 5))) (pw_or1 (pt_cmpR op_ne (pe_ix ix_list (pv 6) (pv 8) (fun _ _ => rfl)) pe_int (nomark _))))) (pv 4) (pv 5)))
      (pss_one (ps_expr (pe_bm PySem.F.plainAttrs_list PySem.F.slot_list_append PySem.F.type_list_append mt_append (pv 7) (pa_cons (pe_op op_sub (pe_ix ix_tup (pe_ix ix_list (pv 1) (pv 8) (fun _ _ => rfl)) pe_int (fun _ _ => rfl)) (pv 9)) pa_nil))))))
      (pss_cons (ps_set (i := 10) sc_law_setting.nd rfl (.inl rfl) (pe_c (ok_law_take T) hr (by decide) (by rfl) (pa_cons (pv 0) (pa_cons (pe_op op_add (pe_callB (cr_min rfl) (by rfl) (b_min T) (by decide +kernel) (pa_cons (pv 7) pa_nil)) pe_int) pa_nil))))
      (pss_cons (ps_set (i := 11) sc_law_setting.nd rfl (.inl rfl) (pe_c (ok_law_take T) hr (by decide) (by rfl) (pa_cons (pv 0) (pa_cons pe_int pa_nil))))
      (pss_cons (ps_set (i := 12) sc_law_setting.nd rfl (.inl rfl) (pe_lst pa_nil))
      (pss_cons (ps_for PassesOwn.never rfl (pi_range1 (by rfl) (b_range T) (pa_cons (pe_callB call_len_seq (by rfl) (b_len T) PySem.boot_len (pa_cons (pv 1) pa_nil)) pa_nil)) (pg_name (i := 8) sc_law_setting.nd rfl (.inl rfl))
      (pss_one (ps_expr (pe_bm PySem.F.plainAttrs_list PySem.F.slot_list_append PySem.F.type_list_append mt_append (pv 12) (pa_cons (pe_c (ok_law_make (P := P) T) hr (by decide) (by rfl) (pa_cons (pv 0) (pa_cons (pe_ix ix_list (pv 6) (pv 8) (fun _ _ => rfl)) (pa_cons (pe_ix ix_list (pv 7) (pv 8) (fun _ _ => rfl)) (pa_cons (pe_ix ix_list (pv 1) (pv 8) (fun _ _ => rfl)) (pa_cons (pe_cmpR op_ne (pv 11) pe_int (nomark _)) (pa_cons (pe_ix ix_list (pv 2) (pv 8) (fun _ _ => rfl)) pa_nil))))))) pa_nil)))))
      (pss_cons (ps_set (i := 13) sc_law_setting.nd rfl (.inl rfl) (pe_mkK (mk_Kind T) hr (by decide) (by rfl) (pa_cons (pv 4) pa_nil) (pk_cons (pv 5) (pk_cons (pv 10) (pk_cons (pe_c (ok_law_take T) hr (by decide) (by rfl) (pa_cons (pv 0) (pa_cons pe_int pa_nil))) (pk_cons (pe_and (pe_cmpR op_eq (pe_callB (cr_max rfl) (by rfl) (b_max T) (by decide +kernel) (pa_cons (pv 7) pa_nil)) pe_int (nomark _)) (pe_one (pe_cmpR op_eq (pe_c (ok_law_take T) hr (by decide) (by rfl) (pa_cons (pv 0) (pa_cons pe_int pa_nil))) pe_int (nomark _)))) (pk_cons (pe_ix ix_list (pe_lst (pa_cons pe_str (pa_cons pe_str (pa_cons pe_str (pa_cons pe_str (pa_cons pe_str pa_nil)))))) (pv 11) (fun _ _ => rfl)) (pk_cons (pe_cmpR op_in_seq (pv 11) (pe_tup (pa_cons pe_int (pa_cons pe_int pa_nil))) rfl) (pk_cons (pe_op op_add pe_int (pe_c (ok_law_take T) hr (by decide) (by rfl) (pa_cons (pv 0) (pa_cons pe_int pa_nil)))) pk_nil)))))))))
      (pss_cons (ps_if (pt_cmpR op_eq (pe_c (ok_law_take T) hr (by decide) (by rfl) (pa_cons (pv 0) (pa_cons pe_int pa_nil))) pe_int (nomark _))
      (pss_one (ps_ret (pe_mkK (mk_Setting2 T) hr (by decide) (by rfl) (pa_cons (pv 12) (pa_cons (pv 13) pa_nil)) (pk_cons (pe_lc (own := [("_law_k", 8)]) (g := (gName 8)) (tt := tYes) rfl sc_law_setting.nd (pi_range1 (by rfl) (b_range T) (pa_cons (pe_op op_add (pe_callB call_len_seq (by rfl) (b_len T) PySem.boot_len (pa_cons (pv 12) pa_nil)) pe_int) pa_nil)) (blkOk_by (own := [("_law_k", 8)]) (N := ["_law_bag_here", "_law_profile_here", "_law_solid", "_law_low", "_law_base", "_law_common", "_law_sorts", "_law_spares", "_law_k", "_law_life", "_law_bonus", "_law_sign", "_law_makes", "_law_kind", "_law_row"]) (sc := defScope s_law_setting) (by decide +kernel)) (fun _ _ _ _ _ => (pg_name (i := 8) sc_law_setting.nd rfl (.inl rfl))) (fun _ _ _ _ _ => pts_nil) (fun _ _ _ _ _ => (pe_mk0 (ok_Clock__init T) hr (by decide) (by rfl)))) (pk_cons (pe_lc (own := [("_law_row", 14)]) (g := (gName 14)) (tt := tYes) rfl sc_law_setting.nd (pi_list (pv 12)) (blkOk_by (own := [("_law_row", 14)]) (N := ["_law_bag_here", "_law_profile_here", "_law_solid", "_law_low", "_law_base", "_law_common", "_law_sorts", "_law_spares", "_law_k", "_law_life", "_law_bonus", "_law_sign", "_law_makes", "_law_kind", "_law_row"]) (sc := defScope s_law_setting) (by decide +kernel)) (fun _ _ _ _ _ => (pg_name (i := 14) sc_law_setting.nd rfl (.inl rfl))) (fun _ _ _ _ _ => pts_nil) (fun _ _ _ _ _ => pe_int)) pk_nil)))))
      pss_nil)
      (pss_one (ps_ret (C8.pe_mk (mk_Setting0 T) hr (by decide) (by rfl) (pa_cons (pv 12) (pa_cons (pv 13) pa_nil))))))))))))))))), ?_⟩
    obtain ⟨⟨ps, hps, hpa⟩, pb, pg⟩ := hpr
    have hpl := prof_len hpa
    have n1 := hch.1
    have n2 := hch.2.1
    have psk : ∀ {H'}, Kept2 b g H H' → H' p = some (.lst ps) := fun {H'} k => k _ _ hps pb pg
    have pda : ∀ {H'}, Kept2 b g H H' → DpAll K H' ps (ch.map dR) := fun {H'} k => Dp.monoLs (k.sl hb) _ _ (noLs_all (noL_ch ch)) hpa
    have slk : ∀ {H'}, Kept2 b g H H' → H' sl = some (.lst (bs.map V.bl)) := fun {H'} k => k _ _ hsl sb sg
    -- low
    refine sq_asg ?_
    refine ⟨_, rfl, p, rfl, ⟨_, .of hps⟩, fun D hD => ?_⟩
    refine lc_mapR (walk_list (xs := ps)) (fun i v _ => ∃ x, (ch.map Hop.lim)[i]? = some x ∧ v = .int x) (fun i v _ _ _ r => r) (by rw [hpl]; exact Nat.le_trans n2 (by decide)) hD (fun H' e => Evl.ex_l e (.of hps)) ?_ ?_
    · rintro i x H1 H2 Z hi e ⟨rfl, hx⟩ kz
      obtain ⟨pr, h1, h2⟩ := prof_get hpa (i := i) (by omega)
      rw [hx] at h1
      cases h1
      exact ⟨rfl, _, rfl, _, _, _, _, rfl, rfl, Evl.ex_t e h2, rfl, kz _ _ ⟨_, by rw [List.getElem?_map, List.getElem?_eq_getElem (by omega)]; rfl, rfl⟩ (Same.refl _)⟩
    intro H1 acc e1 hDacc hlacc hR
    have hacc := acc_eq (xs := ch.map Hop.lim) (g := V.int) (by rw [hlacc, List.length_map, hpl]) hR
    subst hacc
    refine ⟨D, ch.map Hop.lim, rfl, .of hDacc, by rw [List.length_map]; omega, fun low hlm hlmin => ?_⟩
    have hlow : 0 ≤ low ∧ low ≤ 3 := by
      obtain ⟨h, hh, rfl⟩ := List.mem_map.mp hlm
      exact hch.2.2 h hh
    have hmin : ∀ h ∈ ch, low ≤ h.lim := fun h hh => hlmin _ (List.mem_map.mpr ⟨h, hh, rfl⟩)
    obtain ⟨lo, rfl⟩ := Int.eq_ofNat_of_zero_le hlow.1
    clear hlm hlmin hR
    have hm1 : (lo : Int) + 1 = ((lo + 1 : Nat) : Int) := by omega
    dsimp only
    -- base
    refine sq_asg ⟨_, rfl, _, rfl, _, _, rfl, rfl, ?_⟩
    dsimp only
    rw [hm1]
    refine ⟨b, g, c, lo + 1, rfl, hb.mono e1, hne, by omega, by omega, by omega, fun bas H2 hbas k2 b2 => ?_⟩
    have k02 := (Kept2.of (b := b) (g := g) e1).trans k2
    dsimp only
    -- common
    refine sq_asg ?_
    refine ⟨_, rfl, _, rfl, _, _, rfl, rfl, ?_⟩
    dsimp only
    rw [hm1]
    refine ⟨b, g, _, lo + 1, rfl, b2, hne, by omega, by omega, by omega, fun com H3 hcom k3 b3 => ?_⟩
    refine ⟨by show 2 ≤ sizeLine; decide, fun cl hcl => ?_⟩
    have hcl1 : (upd H3 cl (.lst [V.non, .int (com : Nat)])) cl = some (.lst [V.non, .int (com : Nat)]) := upd_same
    have k03 := (k02.trans k3).trans (Kept2.of (same_new (o := .lst [V.non, .int (com : Nat)]) hcl))
    have b3' := b3.mono (same_new (o := .lst [V.non, .int (com : Nat)]) hcl)
    have ncl := b3.nb hcl
    generalize upd H3 cl (.lst [V.non, .int (com : Nat)]) = H4 at hcl1 k03 b3'
    refine ⟨_, rfl, b, g, _, 2, rfl, b3', hne, by decide, by decide, by omega, fun wh H5 hwh k5 b5 => ?_⟩
    have k05 := k03.trans k5
    have hcl5 := k5 _ _ hcl1 ncl.1 ncl.2
    obtain ⟨common, hcv, hcm⟩ : ∃ common : Option Nat, atI [V.non, V.int (com : Nat)] ((wh : Nat) : Int) = some (optV common) ∧ ∀ n, common = some n → n ≤ lo := by
      match wh, hwh with
      | 0, _ => exact ⟨none, atI_nat rfl, fun n z => by cases z⟩
      | 1, _ => exact ⟨some com, atI_nat rfl, fun n z => by cases z; omega⟩
    refine ⟨_, _, _, _, rfl, rfl, .of hcl5, hcv, ?_⟩
    dsimp only
    have hbas : bas ≤ lo := by omega
    have hlife : ∀ s, lifeN common bas s ≤ lo := fun s => life_le hbas hcm
    -- sorts
    refine sq_asg ?_
    refine ⟨_, rfl, p, rfl, ⟨_, .of (psk k05)⟩, fun D6 hD6 => ?_⟩
    have nD6 := b5.nb hD6
    refine lc_mapB (c + 3) 1 (walk_list (xs := ps)) (fun i v _ => ∃ r : Nat, v = .int (r : Nat) ∧ r < 3) (fun i v H1 H2 e h => h) (by rw [hpl]; exact Nat.le_trans n2 (by decide)) hD6 b5 (fun H' e => .of (psk (k05.trans e))) ?_ ?_
    · rintro i x H1' H2' Z hi e be ⟨rfl, hx⟩ kz
      refine ⟨rfl, _, rfl, b, g, _, 3, rfl, be, hne, by decide, by decide, by omega, fun r H3' hr k' b' => ?_⟩
      exact kz _ _ ⟨r, rfl, hr⟩ k' (b'.le (by omega))
    intro H6 acc k6 b6 hDacc6 hlacc6 hR6
    obtain ⟨so, rfl, hso⟩ := nats_of (p := fun r => r < 3) fun v hv => by
      obtain ⟨j, hj⟩ := List.mem_iff_getElem?.mp hv
      exact hR6 j v hj
    rw [List.length_map, hpl] at hlacc6
    have k06 := k05.trans k6
    have b6 := b6.le (d := c + 5) (by omega)
    refine gN ?_
    dsimp only
    -- spares
    refine sq_asg ⟨by show 0 ≤ sizeLine; decide, fun L7 hL7 => ?_⟩
    dsimp only
    have spl : (sparesOf ch so common bas).length = ch.length := by unfold sparesOf; rw [List.length_zipWith]; omega
    refine seqM (t := tFor _ _ _) (fun σ H' => ∃ x8 x9, σ = [some (.ref b), some (.ref p), some (.ref sl), some (.int (lo : Nat)), some (.int (bas : Nat)), some (optV common), some (.ref D6), some (.ref L7), x8, x9, none, none, none, none, none] ∧ Same H6 H' ∧ H' L7 = some (.lst ((sparesOf ch so common bas).map fun n : Nat => V.int (n : Nat)))) (fun Nx hNx => ?_) ?_
    · have e7 : Same H6 (upd H6 L7 (.lst [])) := same_new hL7
      refine ⟨_, rfl, p, _, rfl, .inl (Evl.ex_l e7 (.of (psk k06))), (ps.length : Int), rfl, by omega, by omega, ?_⟩
      rw [show ((ps.length : Int)).toNat = ch.length by omega]
      refine for_it (walk_range (lo := 0) (n := ch.length)) (fun i σ H' => ∃ x8 x9, σ = [some (.ref b), some (.ref p), some (.ref sl), some (.int (lo : Nat)), some (.int (bas : Nat)), some (optV common), some (.ref D6), some (.ref L7), x8, x9, none, none, none, none, none] ∧ Same H6 H' ∧ H' L7 = some (.lst (((sparesOf ch so common bas).take i).map fun n : Nat => V.int (n : Nat)))) ?_ (fun _ _ _ _ _ => trivial) ?_ ?_
      · exact ⟨_, _, rfl, e7, upd_same⟩
      · rintro i x σ _ H1' hi ⟨x8, x9, rfl, e, hL⟩ ⟨rfl, rfl⟩
        have hidx : (0 : Int) + (i : Nat) = (i : Nat) := by omega
        have hsi : so[i]? = some (so[i]'(by omega)) := List.getElem?_eq_getElem _
        have hchi : ch[i]? = some ch[i] := List.getElem?_eq_getElem _
        generalize so[i]'(by omega) = s at hsi
        have hll : ((lifeN common bas s : Nat) : Int) ≤ ch[i].lim := by have := hmin _ (List.getElem_mem hi); have := hlife s; omega
        obtain ⟨sp, hsp1, hsp2⟩ := spares_get hchi hsi hll
        obtain ⟨pr, hpr1, hpr2⟩ := prof_get (pda (k06.trans (.of e))) hi
        refine seqM (t := tAsg _ _) (fun σ H' => H1' = H' ∧ σ = [some (.ref b), some (.ref p), some (.ref sl), some (.int (lo : Nat)), some (.int (bas : Nat)), some (optV common), some (.ref D6), some (.ref L7), some (.int ((0 : Int) + (i : Nat))), some (.int (lifeN common bas s : Nat)), none, none, none, none, none]) (fun Nx hNx => ?_) ?_
        · cases hc0 : common with
          | none =>
            subst hc0
            have hl0 : lifeN none bas s = bas := by unfold lifeN; split <;> rfl
            rw [hl0] at hNx
            exact ⟨_, rfl, _, rfl, iteT ⟨_, rfl, hNx _ _ ⟨rfl, rfl⟩⟩⟩
          | some cm =>
            subst hc0
            refine ⟨_, rfl, _, rfl, iteF ?_⟩
            refine ⟨_, rfl, _, rfl, D6, _, _, _, rfl, rfl, .of (e _ _ hDacc6), atI_eq (j := i) hidx (by rw [List.getElem?_map, hsi]; rfl), rfl, ?_⟩
            by_cases hs0 : s = 0
            · have hl0 : lifeN (some cm) bas s = cm := by unfold lifeN; rw [if_pos hs0]; rfl
              rw [hl0] at hNx
              subst hs0
              exact ⟨_, rfl, iteF ⟨_, rfl, hNx _ _ ⟨rfl, rfl⟩⟩⟩
            · have hl0 : lifeN (some cm) bas s = bas := by unfold lifeN; rw [if_neg hs0]
              rw [hl0] at hNx
              have hd : (!decide (V.int (s : Nat) = V.int 0)) = true := by
                rw [decide_eq_false fun z => hs0 (by injection z with z; omega)]; rfl
              rw [hd]
              exact ⟨_, rfl, iteT ⟨_, rfl, hNx _ _ ⟨rfl, rfl⟩⟩⟩
        rintro _ _ ⟨rfl, rfl⟩
        refine ⟨_, rfl, .inl ⟨rfl, _, .of hL⟩, _, rfl, _, rfl, p, ps, _, _, rfl, rfl, .of (psk (k06.trans (.of e))), atI_eq (j := i) hidx hpr1, _, _, _, _, rfl, rfl, hpr2, rfl, _, rfl, _, _, rfl, rfl, L7, _, _, rfl, rfl, hL, ?_, _, _, rfl, same_mut e hL7, ?_⟩
        · rw [List.length_map]
          exact Nat.lt_of_le_of_lt (Nat.le_trans (List.length_take_le' ..) (by rw [spl]; exact n2)) (by decide)
        · rw [upd_same]
          have htk : (sparesOf ch so common bas).take (i + 1) = (sparesOf ch so common bas).take i ++ [sp] := by
            obtain ⟨q1, q2⟩ := List.getElem?_eq_some_iff.mp hsp1
            rw [List.take_succ_eq_append_getElem q1, q2]
          rw [htk, List.map_append]
          dsimp only
          rw [← hsp2]
          rfl
      · rintro σ H1' ⟨x8, x9, rfl, e, hL⟩
        rw [← spl, List.take_length] at hL
        exact hNx _ _ ⟨_, _, rfl, e, hL⟩
    rintro _ H7 ⟨x8, x9, rfl, e7, hL7'⟩
    have k07 := k06.trans (.of e7)
    have b7 := b6.mono e7
    have nL7 := b6.nb hL7
    have hsps3 : ∀ x ∈ sparesOf ch so common bas, x ≤ 3 := fun x hx => by
      obtain ⟨i, hi⟩ := List.mem_iff_getElem?.mp hx
      have hic : i < ch.length := by rw [← spl]; exact (List.getElem?_eq_some_iff.mp hi).1
      have hll : ((lifeN common bas (so[i]'(by omega)) : Nat) : Int) ≤ ch[i].lim := by have := hmin _ (List.getElem_mem hic); have := hlife (so[i]'(by omega)); omega
      obtain ⟨sp, h1, h2⟩ := spares_get (List.getElem?_eq_getElem hic) (List.getElem?_eq_getElem (show i < so.length by omega)) hll
      rw [hi] at h1
      cases h1
      have := (hch.2.2 _ (List.getElem_mem hic)).2
      omega
    have hspG : ∀ (i : Nat) (h : Hop) (s sp : Nat), ch[i]? = some h → so[i]? = some s → (sparesOf ch so common bas)[i]? = some sp → (sp : Int) = h.lim - (lifeN common bas s : Nat) := fun i h s sp q1 q2 q3 => by
      obtain ⟨sp', h1, h2⟩ := spares_get (common := common) (base := bas) q1 q2 (by have := hmin _ (List.mem_of_getElem? q1); have := hlife s; omega)
      rw [q3] at h1
      cases h1
      exact h2
    generalize hsps : sparesOf ch so common bas = sps at *
    have hLq : ∀ {H' : Hp}, H' L7 = some (.lst (sps.map fun n : Nat => V.int (n : Nat))) → SqL K H' L7 ((sps.map fun n : Nat => (n : Int)).map V.int) := fun {H'} h => .of (by rw [List.map_map]; exact h)
    -- bonus
    refine sq_asg ⟨_, rfl, _, rfl, L7, sps.map fun n : Nat => (n : Int), rfl, hLq hL7', by rw [List.length_map]; omega, fun mn hmn hmin7 => ⟨_, _, rfl, rfl, ?_⟩⟩
    obtain ⟨mnN, hmnm, rfl⟩ := List.mem_map.mp hmn
    have hmn3 := hsps3 _ hmnm
    dsimp only
    rw [show ((mnN : Nat) : Int) + 1 = ((mnN + 1 : Nat) : Int) by omega]
    refine ⟨b, g, _, mnN + 1, rfl, b7, hne, by omega, by omega, by omega, fun bo H8 hbo k8 b8 => ?_⟩
    have hbon : ∀ s ∈ sps, bo ≤ s := fun s hs => by have := hmin7 _ (List.mem_map.mpr ⟨s, hs, rfl⟩); omega
    dsimp only
    -- sign
    refine sq_asg ⟨_, rfl, b, g, _, 5, rfl, b8, hne, by decide, by decide, by omega, fun sn H9 hsn k9 b9 => ?_⟩
    dsimp only
    have k79 := k8.trans k9
    have k09 := k07.trans k79
    have hL9 := k79 _ _ hL7' nL7.1 nL7.2
    have hD9 := k79 _ _ (e7 _ _ hDacc6) nD6.1 nD6.2
    -- makes
    refine sq_asg ⟨by show 0 ≤ sizeLine; decide, fun L12 hL12 => ?_⟩
    dsimp only
    have n12 := b9.nb hL12
    refine seqM (t := tFor _ _ _) (fun σ H' => ∃ x8, σ = [some (.ref b), some (.ref p), some (.ref sl), some (.int (lo : Nat)), some (.int (bas : Nat)), some (optV common), some (.ref D6), some (.ref L7), x8, x9, some (.int (bo : Nat)), some (.int (sn : Nat)), some (.ref L12), none, none] ∧ Kept2 b g H9 H' ∧ BagAt H' b g (c + 17) ∧ ∃ ms : List Addr, ms.length = ch.length ∧ H' L12 = some (.lst (ms.map V.ref)) ∧ MadeAt K H' so sps ch (!decide (V.int (sn : Nat) = V.int 4)) ms) (fun Nx hNx => ?_) ?_
    · have e12 : Same H9 (upd H9 L12 (.lst [])) := same_new hL12
      refine ⟨_, rfl, p, _, rfl, .inl (Evl.ex_l e12 (.of (psk k09))), (ps.length : Int), rfl, by omega, by omega, ?_⟩
      rw [show ((ps.length : Int)).toNat = ch.length by omega]
      refine for_it (walk_range (lo := 0) (n := ch.length)) (fun i σ H' => ∃ x8, σ = [some (.ref b), some (.ref p), some (.ref sl), some (.int (lo : Nat)), some (.int (bas : Nat)), some (optV common), some (.ref D6), some (.ref L7), x8, x9, some (.int (bo : Nat)), some (.int (sn : Nat)), some (.ref L12), none, none] ∧ Kept2 b g H9 H' ∧ BagAt H' b g (c + 7 + 5 * i) ∧ ∃ ms : List Addr, ms.length = i ∧ H' L12 = some (.lst (ms.map V.ref)) ∧ MadeAt K H' so sps ch (!decide (V.int (sn : Nat) = V.int 4)) ms) ?_ (fun _ _ _ _ _ => trivial) ?_ ?_
      · exact ⟨_, rfl, .of e12, (b9.mono e12).le (by omega), [], rfl, upd_same, [], rfl, fun i a hi => by cases hi⟩
      · rintro i x σ _ H1' hi ⟨x8, rfl, kk, be, ms, hml, hLm, hma⟩ ⟨rfl, rfl⟩
        have hidx : (0 : Int) + (i : Nat) = (i : Nat) := by omega
        have hsi : so[i]? = some (so[i]'(by omega)) := List.getElem?_eq_getElem _
        have hpi : sps[i]? = some (sps[i]'(by omega)) := List.getElem?_eq_getElem _
        have hchi : ch[i]? = some ch[i] := List.getElem?_eq_getElem _
        have hbi : bs[i]? = some (bs[i]'(by omega)) := List.getElem?_eq_getElem _
        generalize so[i]'(by omega) = s at hsi
        generalize sps[i]'(by omega) = sp at hpi
        generalize bs[i]'(by omega) = sd at hbi
        have k0' := k09.trans kk
        obtain ⟨pr, hpr1, hpr2⟩ := prof_get (pda k0') hi
        refine ⟨_, rfl, .inl ⟨rfl, _, .of hLm⟩, _, rfl, _, rfl, _, rfl, D6, _, _, _, rfl, rfl, .of (kk _ _ hD9 nD6.1 nD6.2), atI_eq (j := i) hidx (by rw [List.getElem?_map, hsi]; rfl), ?_⟩
        refine ⟨_, rfl, _, rfl, L7, _, _, _, rfl, rfl, .of (kk _ _ hL9 nL7.1 nL7.2), atI_eq (j := i) hidx (by rw [List.getElem?_map, hpi]; rfl), ?_⟩
        refine ⟨_, rfl, _, rfl, p, ps, _, _, rfl, rfl, .of (psk k0'), atI_eq (j := i) hidx hpr1, ?_⟩
        refine ⟨_, rfl, rfl, ?_⟩
        refine ⟨_, rfl, _, rfl, sl, _, _, _, rfl, rfl, .of (slk k0'), atI_eq (j := i) hidx (by rw [List.getElem?_map, hbi]; rfl), ?_⟩
        refine ⟨b, g, _, s, sp, pr, ch[i].lim, ch[i].tells, ch[i].dates, _, sd, rfl, be, hne, by omega, hpr2, fun a m H2' hm k' b' hmk => ?_⟩
        have hLm' := k' _ _ hLm n12.1 n12.2
        refine ⟨L12, _, _, rfl, rfl, hLm', ?_, _, rfl, (kk.trans k').new hL12, (b'.upd n12.1 n12.2).le (by omega), ms ++ [a], by simp [hml], ?_, ?_⟩
        · rw [List.length_map, hml]
          exact Nat.lt_of_lt_of_le (Nat.lt_of_lt_of_le hi n2) (by decide)
        · rw [upd_same, List.map_append]; rfl
        · have sl2 : SameL H2' (upd H2' L12 (.lst (ms.map V.ref ++ [V.ref a]))) := (SameL.refl _).mut hLm'
          obtain ⟨dm, hmk⟩ := hmk
          refine (hma.monoL ((k'.sl be).trans sl2)).snoc (m := m) (h := ch[i]) (so := s) (sp := sp) (by rw [hml]; exact hchi) (by rw [hml]; exact hsi) (by rw [hml]; exact hpi) hm ⟨dm, sl2 _ _ hmk trivial⟩
      · rintro σ H1' ⟨x8, rfl, kk, be, ms, hml, hLm, hma⟩
        exact hNx _ _ ⟨_, rfl, kk, be.le (by omega), ms, hml, hLm, hma⟩
    rintro _ H12 ⟨x8', rfl, k912, b12, ms, hml, hLm, hma⟩
    have k012 := k09.trans k912
    have hL12' := k912 _ _ hL9 nL7.1 nL7.2
    -- the kind
    refine seqM (t := tAsg _ _) (fun σ H' => ∃ (pk : Addr) (kd : KindD), σ = [some (.ref b), some (.ref p), some (.ref sl), some (.int (lo : Nat)), some (.int (bas : Nat)), some (optV common), some (.ref D6), some (.ref L7), x8', x9, some (.int (bo : Nat)), some (.int (sn : Nat)), some (.ref L12), some (.ref pk), none] ∧ Kept2 b g H12 H' ∧ BagAt H' b g (c + 20) ∧ KindAt K H' pk kd ∧ kdOk kd ∧ kd.lasts = bas ∧ kd.shared = common ∧ kd.late = bo ∧ (kd.strict = true → ∀ s ∈ sps, s = 0) ∧ (kd.mark = "weak" → sn = 4) ∧ kd.margin ≠ 0) (fun Nx hNx => ?_) ?_
    · refine ⟨_, rfl, _, rfl, _, rfl, _, rfl, b, g, _, 3, rfl, b12, hne, by decide, by decide, by omega, fun oe H13 hoe k13 b13 => ?_⟩
      refine ⟨_, rfl, L7, sps.map fun n : Nat => (n : Int), rfl, hLq (k13 _ _ hL12' nL7.1 nL7.2), by rw [List.length_map]; omega, fun mx hmx hmax => ⟨rfl, ?_⟩⟩
      refine and_mid (fun st H' => Kept2 b g H13 H' ∧ BagAt H' b g (c + 19) ∧ (st = true → ∀ s ∈ sps, s = 0)) ?_ ?_ ?_
      · intro hz Z hZ
        have hz0 : mx = 0 := by have z := of_decide_eq_true hz; injection z
        refine ⟨_, rfl, b, g, _, 2, rfl, b13, hne, by decide, by decide, by omega, fun r H14 hr' k14 b14 => ⟨rfl, hZ _ _ ⟨k14, b14, fun _ s hs => ?_⟩⟩⟩
        have := hmax _ (List.mem_map.mpr ⟨s, hs, rfl⟩)
        omega
      · intro _
        exact ⟨.refl _, b13.le (by omega), fun z => by cases z⟩
      rintro st H14 ⟨k14, b14, hst⟩
      obtain ⟨mk, hmk1, hmk2, hmk3⟩ := sign_at hsn
      refine ⟨by show 5 ≤ sizeLine; decide, fun ml hml' => ⟨_, rfl, _, _, _, _, rfl, rfl, .of upd_same, atI_nat (xs := signs.map V.str) (by rw [List.getElem?_map, hmk1]; rfl), ?_⟩⟩
      have e15 := same_new (o := .lst [.str "strong", .str "strong", .str "none", .str "none", .str "weak"]) hml'
      refine ⟨_, rfl, by show 2 ≤ sizeLine; decide, fun tp htp => ⟨tp, _, rfl, .inr (.of upd_same), rfl, rfl, ?_⟩⟩
      have e16 := e15.trans (same_new (o := .tup [.int 1, .int 2]) htp)
      refine ⟨_, rfl, b, g, _, 3, rfl, b14.mono e16, hne, by decide, by decide, by omega, fun mg' H17 hmg k17 b17 => ⟨_, _, rfl, rfl, ?_⟩⟩
      refine ⟨rfl, rfl, fun x dx hx hdx hne2 => ?_⟩
      have hmr : (1 : Int) + (mg' : Nat) = ((1 + mg' : Nat) : Int) := by omega
      dsimp only
      rw [hmr]
      refine ⟨x, dx, ⟨bas, common, bo, oe, st, mk, _, 1 + mg'⟩, rfl, ⟨by show bas < 4; omega, fun n hn => by have := hcm n hn; omega, by show bo < 4; omega, by show oe < 4; omega⟩, by show 1 + mg' ≤ 1000; omega, hmk2, upd_same, fun H' h1 h2 => ⟨rfl, ?_⟩⟩
      have e := made_same (Same.refl _) hx hdx hne2 h1
      have kf := (((k13.trans k14).trans (.of e16)).trans k17).trans (.of e)
      exact hNx _ _ ⟨x, _, rfl, kf, (b17.mono e).le (by omega), h2, ⟨by show bas < 4; omega, fun n hn => by have := hcm n hn; omega, by show bo < 4; omega, by show oe < 4; omega⟩, rfl, rfl, rfl, hst, hmk3, by show 1 + mg' ≠ 0; omega⟩
    rintro _ H18 ⟨pk, kd, rfl, k18, b18, hkat, hkok, hk1, hk2, hk3, hk4, hk5, hk6⟩
    have hL18 := k18 _ _ hLm n12.1 n12.2
    have hma18 := hma.monoL (k18.sl b12)
    have k018 := k012.trans k18
    subst hk1 hk2 hk3
    obtain ⟨sd, hs1, hs2, hs3, hs4, hs5⟩ := made_set hma18 hml n1 n2 hkok hbon hk4 hspG (fun z => ⟨(fun q => by rw [hk5 q] at z; cases z), hk6⟩)
    have hsl6 : sd.makes.length ≤ 6 := by omega
    -- either end
    have fin : ∀ (H' : Hp) (cv dv : V) (x dx : Addr), Kept2 b g H18 H' → BagAt H' b g (c + 30) → SqL K H' L12 (ms.map V.ref) → ClkArg K H' sd.makes.length cv → DlyArg K H' sd.makes.length dv → H' x = none → H' dx = none → dx ≠ x →
        sp_Setting__init K [.ref x, .ref L12, .ref pk, cv, dv, .bl false] (upd (upd H' dx (.own x)) x (.ins (He.ga K "Setting") dx [])) (fun v H2 => v = .non ∧ Q (.ref x) H2) E0 := fun H' cv dv x dx kk bb hq hcv hdv hx hdx hne2 => by
      have hx2 : (upd H' dx (.own x)) x = none := (upd_ne (Ne.symm hne2)).trans hx
      have e : Same H' (upd (upd H' dx (.own x)) x (.ins (He.ga K "Setting") dx [])) := (same_new hdx).trans (same_new hx2)
      have sl := (kk.sl b18).trans (SameL.of e)
      refine ⟨x, dx, L12, pk, cv, dv, ms, sd, rfl, Evl.ex_l e hq, hs2.symm, fun i m hi => ?_, ?_, by omega, hsl6, hcv.mono e, hdv.mono e, upd_same, fun H2 h1 h2 => ⟨rfl, ?_⟩⟩
      · obtain ⟨am, q1, dm, q2⟩ := hs3 i m hi
        exact ⟨am, q1, dm, sl _ _ q2 trivial⟩
      · obtain ⟨dk, q⟩ := hkat
        rw [hs1]
        exact ⟨dk, sl _ _ q trivial⟩
      have eS := made_same (Same.refl _) hx hdx hne2 h1
      exact k x sd H2 hs4 hs5 ((k018.trans kk).trans (.of eS)) ((bb.mono eS).le (by omega)) (h2.old e (k018.trans kk) bb)
    refine ⟨_, rfl, b, g, _, 2, rfl, b18, hne, by decide, by decide, by omega, fun r H19 hr' k19 b19 => ⟨rfl, _, rfl, ?_⟩⟩
    have hL19 := k19 _ _ hL18 n12.1 n12.2
    cases hw1 : decide (V.int (r : Nat) = V.int 1) with
    | false =>
      refine iteF ?_
      delta tNext
      dsimp only
      refine ⟨_, rfl, _, rfl, fun x dx hx hdx hne2 => ?_⟩
      exact fin H19 .non .non x dx k19 (b19.le (by omega)) (.of hL19) (.inl rfl) (.inl rfl) hx hdx hne2
    | true =>
      refine iteT ?_
      have hml2 : (ms.map V.ref).length = ch.length := by rw [List.length_map, hml]
      refine ⟨_, rfl, _, rfl, _, rfl, L12, _, rfl, .inl (.of hL19), _, _, rfl, rfl, _, rfl, by rw [hml2]; omega, by rw [hml2]; omega, fun D hD => ?_⟩
      rw [show (((ms.map V.ref).length : Nat) : Int) + 1 = ((ch.length + 1 : Nat) : Int) by rw [hml2]; omega]
      rw [show (((ch.length + 1 : Nat) : Int)).toNat = ch.length + 1 by omega]
      refine lc_mapR walk_range (fun i v H' => ∃ cx, v = .ref cx ∧ ClockAt K H' cx) (fun i v H1 H2 e ⟨cx, q1, q2⟩ => ⟨cx, q1, q2.monoL e⟩) (Nat.le_trans (Nat.succ_le_succ n2) (by decide)) hD (fun _ _ => trivial) ?_ ?_
      · rintro i x H1' H2' Z hi e ⟨rfl, rfl⟩ kz
        refine ⟨rfl, fun x dx' hx hdx hne' => ?_⟩
        exact ⟨x, dx', rfl, upd_same, fun H' h1 h2 => ⟨rfl, kz _ _ ⟨x, rfl, h2⟩ (made_same (Same.refl _) hx hdx hne' h1)⟩⟩
      intro H20 acc e20 hDacc hlacc hRR
      obtain ⟨cs, rfl⟩ := refs_of (acc := acc) fun v hv => by
        obtain ⟨i, hi⟩ := List.mem_iff_getElem?.mp hv
        obtain ⟨cx, h1, _⟩ := hRR i v hi
        exact ⟨cx, h1⟩
      rw [List.length_map] at hlacc
      have hL20 := e20 _ _ hL19
      refine ⟨_, rfl, L12, rfl, ⟨_, .of hL20⟩, fun D2 hD2 => ?_⟩
      refine lc_mapR (walk_list (xs := ms.map V.ref)) (fun i v _ => ∃ x, (List.replicate ch.length ())[i]? = some x ∧ v = .int 0) (fun i v _ _ _ r => r) (by rw [hml2]; exact Nat.le_trans n2 (by decide)) hD2 (fun H' e => Evl.ex_l e (.of hL20)) ?_ ?_
      · rintro i x H1' H2' Z hi e ⟨rfl, hx⟩ kz
        exact ⟨rfl, kz _ _ ⟨(), by rw [List.getElem?_replicate, if_pos (by rw [← hml2]; exact hi)], rfl⟩ (Same.refl _)⟩
      intro H21 acc2 e21 hDacc2 hlacc2 hRR2
      have hacc2 := acc_eq (xs := List.replicate ch.length ()) (g := fun _ => V.int 0) (by rw [hlacc2]; simp [hml2]) hRR2
      subst hacc2
      have e1921 := e20.trans e21
      refine ⟨rfl, rfl, fun x dx hx hdx hne2 => ?_⟩
      refine fin H21 (.ref D) (.ref D2) x dx (k19.trans (.of e1921)) ((b19.mono e1921).le (by omega)) (.of (e21 _ _ hL20)) ?_ ?_ hx hdx hne2
      · refine .inr ⟨D, cs, rfl, .of (e21 _ _ hDacc), by omega, fun cx hcx => ?_⟩
        obtain ⟨i, hi⟩ := List.mem_iff_getElem?.mp hcx
        obtain ⟨cx', h1, dx, h2⟩ := hRR i (.ref cx) (by rw [List.getElem?_map, hi]; rfl)
        cases h1
        exact ⟨dx, e21 _ _ h2⟩
      · refine .inr ⟨D2, rfl, .of ?_⟩
        rw [hDacc2, show sd.makes.length = ch.length by omega]
        simp
end
end K98
set_option Elab.async false
set_option linter.all false
set_option maxRecDepth 100000
set_option maxHeartbeats 4000000
namespace K98
open PySem PySem.Spec PyProof.Rows L2 Ru He6 TL
open C8 (Cal pe_c)
/-- the verdicts' word -/
theorem word_len {n : Nat} : ∀ {w : List Nat}, Kb.dig (n + 2) w → (wordEv (evs n) w.reverse).length = w.length
  | [], _ => rfl
  | e :: u, hw => by
    obtain ⟨h1, h2⟩ := Kb.dig_cons hw
    rw [word_snoc h1, List.length_append, word_len h2]
    rfl
theorem verdOk_of {ages : Bool} {c1 c2 : Chain} {n : Nat} {V : Verd} (h : IsV ages c1 c2 n V) : verdOk n V := by
  cases V with
  | same R => trivial
  | parted w => exact ⟨h.1, h.2.1⟩
theorem isSame_ex {V : Verd} (h : isSame V = true) : ∃ R, V = .same R := by
  cases V with
  | same R => exact ⟨R, rfl⟩
  | parted w => cases h
/-- a row of the law: where it is, its setting, its chain -/
structure RowAt (K : PySem.W.Frag) (H : Hp) (a : Addr) (s : SetD) (c : Chain) : Prop where
  at_ : SetAt K H a s
  ok : SetOk s
  ch : chainOf s = c
  cok : chOk c
theorem RowAt.mono {K : PySem.W.Frag} {H H' : Hp} {a : Addr} {s : SetD} {c : Chain} (e : Same H H') (h : RowAt K H a s c) : RowAt K H' a s c := ⟨h.at_.mono e, h.ok, h.ch, h.cok⟩
theorem RowAt.len {K : PySem.W.Frag} {H : Hp} {a : Addr} {s : SetD} {c : Chain} (h : RowAt K H a s c) : s.makes.length = c.length := by
  rw [← h.ch]; unfold chainOf; rw [List.length_map]
theorem RowAt.univ {K : PySem.W.Frag} {H H' : Hp} {a b : Addr} {s t : SetD} {c d : Chain} (h : RowAt K H a s c) (g : RowAt K H' b t d) (n : Nat) : Univ (chainOf s) (chainOf t) n (univ (chainOf s) (chainOf t)) := by
  rw [h.ch, g.ch]
  exact univ_ok h.cok g.cok n
section
variable {P : Program} {w : World} {K : PySem.W.Frag} {mg : Str → Option Value} {base : Heap}
theorem c0_compare (T : TT K mg) : C8.Cal P w K mg base 14 "compare" (sp_compare K) [.bl true] :=
  (ok_compare T).cal0 2 (by simp) rfl fun D doc pm an cdv ct us ks l1 l2 => match us, ks, l1, l2 with
    | [_, _], [_], _, _ => ⟨_, _, _, _, _, _, rfl, rfl, rfl⟩
end
abbrev nLaw : List Str := ["_law_script", "_law_bag_here", "_law_profiles", "_law_both", "_law_rows", "_law_profile_here", "_law_solid", "_law_itself", "_law_twin", "_law_near", "_law_full", "_law_bare", "_law_outer", "_law_far", "_law_row"]
section
variable {P : Program} [IsP P] {w : World} {K : PySem.W.Frag} {mg : Str → Option Value} {base : Heap}
theorem sc_law : FnScope ["_law_script", "_law_bag_here", "_law_profiles", "_law_both", "_law_rows", "_law_profile_here", "_law_solid", "_law_itself", "_law_twin", "_law_near", "_law_full", "_law_bare", "_law_outer", "_law_far", "_law_row"] ["_law_script"] (defScope s_law) := ⟨rfl, rfl, rfl, by decide +kernel, rfl, by decide +kernel, by decide +kernel⟩
theorem law_t2 (T : TT K mg) (cdv : Value) (A : Around) (outer : List Env) (s : Shared) (H0 : Hp) (E : XK) (hr : Room 15 (A.deeper (envOfC "law" (defScope s_law) s.heap.objs.size (He.ga K "law") cdv))) (hgd : A.guards = some []) :
    ∃ t, PSs (cxOf CX0 P w K mg base nLaw "law" (defScope s_law) (He.ga K "law") cdv A outer s H0 E).nox ((defBody s_law).drop 12) t ∧
      ∀ (D : Ends) (H : Hp) (x0 x1 x5 x6 x7 x8 : Option V) (Lp L4 p0 p1 p2 a0 a1 a2 a3 : Addr) (both : Bool) (vn : V) (s0 s1 s2 : SetD) (c0 c1 c2 : Chain) (V1 : Verd), H Lp = some (.lst [.ref p0, .ref p1, .ref p2]) → H L4 = some (.lst [.ref a0, .ref a1, .ref a2, .ref a3]) →
        ProfAt K H p0 c0 → ProfAt K H p1 c1 → ProfAt K H p2 c2 → RowAt K H a0 s0 c0 → RowAt K H a1 s1 c1 → RowAt K H a2 s2 c2 → IsV both c0 c1 (min c0.length c1.length) V1 → Dp K H vn (dV (min c0.length c1.length) V1) →
        (∀ H', D.rt (.bl true) H') → t D [x0, x1, some (.ref Lp), some (.bl both), some (.ref L4), x5, x6, x7, x8, some vn, none, none, none, none, none] H := by
  refine ⟨_, (pss_cons (ps_set (i := 10) sc_law.nd rfl (.inl rfl) (pe_c (c0_compare T) hr (by decide) (by rfl) (pa_cons (pe_ix ix_list (pv 4) pe_int (fun _ _ => rfl)) (pa_cons (pe_ix ix_list (pv 4) pe_int (fun _ _ => rfl)) pa_nil))))
     (pss_cons (ps_set (i := 11) sc_law.nd rfl (.inl rfl) (pe_cK (cn_compare T) hr (by decide) (by rfl) (pa_cons (pe_ix ix_list (pv 4) pe_int (fun _ _ => rfl)) (pa_cons (pe_ix ix_list (pv 4) pe_int (fun _ _ => rfl)) pa_nil)) (pk_cons pe_bl pk_nil)))
     (pss_cons (ps_set (i := 12) sc_law.nd rfl (.inl rfl) (pe_cK (cn_compare T) hr (by decide) (by rfl) (pa_cons (pe_ix ix_list (pv 4) pe_int (fun _ _ => rfl)) (pa_cons (pe_ix ix_list (pv 4) pe_int (fun _ _ => rfl)) pa_nil)) (pk_cons (pv 3) pk_nil)))
     (pss_cons (ps_if (PW.pt (pw_or (pt_not (pt_val (pe_c (ok_law_is_verdict T) hr (by decide) (by rfl) (pa_cons (pv 10) pa_nil)))) (pw_or (pt_not (pt_val (pe_c (ok_law_is_verdict T) hr (by decide) (by rfl) (pa_cons (pv 11) pa_nil)))) (pw_or1 (pt_not (pt_val (pe_c (ok_law_is_verdict T) hr (by decide) (by rfl) (pa_cons (pv 12) pa_nil))))))))
 (pss_one (ps_ret pe_bl))
 pss_nil)
     (pss_cons (ps_if (PW.pt (pw_and (pt_cmpR op_eq (pe_ix ix_tup (pv 11) pe_int (fun _ _ => rfl)) pe_str (nomark _)) (pw_and1 (PW.pt (pw_or (pt_cmpR op_eq (pe_ix ix_tup (pv 10) pe_int (fun _ _ => rfl)) pe_str (nomark _)) (pw_or1 (pt_cmpR op_gt (pe_callB call_len_seq (by rfl) (b_len T) PySem.boot_len (pa_cons (pe_ix ix_tup (pv 10) pe_int (fun _ _ => rfl)) pa_nil)) (pe_callB call_len_seq (by rfl) (b_len T) PySem.boot_len (pa_cons (pe_ix ix_tup (pv 11) pe_int (fun _ _ => rfl)) pa_nil)) (nomark _))))))))
 (pss_one (ps_ret pe_bl))
 pss_nil)
     (pss_cons (ps_if (PW.pt (pw_and (pt_cmpR op_eq (pe_ix ix_tup (pv 10) pe_int (fun _ _ => rfl)) pe_str (nomark _)) (pw_and1 (pt_not (pt_val (pe_c (ok_law_parted T) hr (by decide) (by rfl) (pa_cons (pe_ix ix_list (pv 2) pe_int (fun _ _ => rfl)) (pa_cons (pe_ix ix_list (pv 2) pe_int (fun _ _ => rfl)) (pa_cons (pe_ix ix_tup (pv 10) pe_int (fun _ _ => rfl)) (pa_cons pe_bl pa_nil))))))))))
 (pss_one (ps_ret pe_bl))
 pss_nil)
     (pss_cons (ps_set (i := 13) sc_law.nd rfl (.inl rfl) (pe_ifExp (pt_val (pv 3)) (pv 10) (pv 11)))
     (pss_one (ps_ret (pe_cG (okg_law_through T) hr (by decide) hgd (by rfl) (pa_cons (pv 9) (pa_cons (pv 13) (pa_cons (pv 12) (pa_cons (pe_lc (own := [("_law_profile_here", 5)]) (g := (gName 5)) (tt := tYes) rfl sc_law.nd (pi_list (pv 2)) (blkOk_by (own := [("_law_profile_here", 5)]) (N := ["_law_script", "_law_bag_here", "_law_profiles", "_law_both", "_law_rows", "_law_profile_here", "_law_solid", "_law_itself", "_law_twin", "_law_near", "_law_full", "_law_bare", "_law_outer", "_law_far", "_law_row"]) (sc := defScope s_law) (by decide +kernel)) (fun _ _ _ _ _ => (pg_name (i := 5) sc_law.nd rfl (.inl rfl))) (fun _ _ _ _ _ => pts_nil) (fun _ _ _ _ _ => (pe_callB (r := rLenK K) call_len_seq (by rfl) (b_len T) PySem.boot_len (pa_cons (pv 5) pa_nil)))) pa_nil)))))))))))))), ?_⟩
  intro D H x0 x1 x5 x6 x7 x8 Lp L4 p0 p1 p2 a0 a1 a2 a3 both vn s0 s1 s2 c0 c1 c2 V1 hLp hL4 hp0 hp1 hp2 hr0 hr1 hr2 hV1 hvn k
  have l0 := hr0.len
  have l1 := hr1.len
  have l2 := hr2.len
  have c01 := hr0.cok.1
  have c02 := hr0.cok.2.1
  have c11 := hr1.cok.1
  have c12 := hr1.cok.2.1
  have c21 := hr2.cok.1
  have c22 := hr2.cok.2.1
  -- full
  refine sq_asg ⟨_, rfl, _, _, _, _, rfl, rfl, .of hL4, at_1, _, rfl, _, _, _, _, rfl, rfl, .of hL4, at_2, ?_⟩
  refine ⟨a1, a2, true, s1, s2, _, rfl, hr1.at_, hr2.at_, hr1.ok, hr2.ok, hr1.univ hr2 _, fun vf H1 V2 e1 hV2 hvf => ?_⟩
  rw [hr1.ch, hr2.ch, l1, l2] at hV2
  rw [l1, l2] at hvf
  dsimp only
  -- bare
  refine sq_asg ⟨_, rfl, _, _, _, _, rfl, rfl, .of (e1 _ _ hL4), at_1, _, rfl, _, _, _, _, rfl, rfl, .of (e1 _ _ hL4), at_2, rfl, rfl, ?_⟩
  refine ⟨a1, a2, false, s1, s2, _, rfl, hr1.at_.mono e1, hr2.at_.mono e1, hr1.ok, hr2.ok, hr1.univ hr2 _, fun vb H2 Vb e2 hVb hvb => ?_⟩
  rw [hr1.ch, hr2.ch, l1, l2] at hVb
  rw [l1, l2] at hvb
  have e02 := e1.trans e2
  -- outer
  refine sq_asg ⟨_, rfl, _, _, _, _, rfl, rfl, .of (e02 _ _ hL4), at_0, _, rfl, _, _, _, _, rfl, rfl, .of (e02 _ _ hL4), at_2, _, rfl, rfl, rfl, ?_⟩
  refine ⟨a0, a2, both, s0, s2, _, rfl, hr0.at_.mono e02, hr2.at_.mono e02, hr0.ok, hr2.ok, hr0.univ hr2 _, fun vo H3 V3 e3 hV3 hvo => ?_⟩
  rw [hr0.ch, hr2.ch, l0, l2] at hV3
  rw [l0, l2] at hvo
  have e03 := e02.trans e3
  have hvf3 := Dp.mono (e2.trans e3) _ _ hvf
  have hvb3 := Dp.mono e3 _ _ hvb
  have hvn3 := Dp.mono e03 _ _ hvn
  refine ⟨_, rfl, vf, _, V2, rfl, hvf3, _, rfl, iteF ?_⟩
  refine ⟨_, rfl, vb, _, Vb, rfl, hvb3, _, rfl, iteF ?_⟩
  refine ⟨_, rfl, vo, _, V3, rfl, hvo, _, rfl, iteF ?_⟩
  delta tNext
  dsimp only
  have hn1 : min c1.length c2.length ≤ 9 := by omega
  have lenEv : ∀ {ages : Bool} {u : List Nat} {H' : Hp} {l : Addr} {es : List V}, IsV ages c1 c2 (min c1.length c2.length) (.parted u) → DpAll K H' es ((wordEv (evs (min c1.length c2.length)) u.reverse).map dEv) → es.length = u.length := fun h d => by
    have := DpAll.len d
    rw [List.length_map, word_len h.2.1] at this
    exact this
  refine seqM (t := tIfS _ _ _) (fun σ H' => σ = [x0, x1, some (.ref Lp), some (.bl both), some (.ref L4), x5, x6, x7, x8, some vn, some vf, some vb, some vo, none, none] ∧ Same H3 H') (fun Nx hNx => ?_) ?_
  · obtain ⟨pb, ub, rfl, hpb⟩ := tag_at hvb3
    cases Vb with
    | same R =>
      refine ⟨_, rfl, _, _, _, _, rfl, rfl, hpb, rfl, rfl, _, rfl, iteF ?_⟩
      exact hNx _ _ ⟨rfl, Same.refl _⟩
    | parted wb =>
      obtain ⟨u, rfl, hul⟩ := bare_full hVb hV2
      obtain ⟨pf, uf, rfl, hpf, huf⟩ := two_str hvf3
      obtain ⟨pb', ub', eq, hpb', hub⟩ := two_str hvb3
      cases eq
      obtain ⟨lf, ef, rfl, hlf, hdf⟩ := huf.lstI
      obtain ⟨lb, eb, rfl, hlb, hdb⟩ := hub.lstI
      have q1 := lenEv (l := lf) hV2 hdf
      have q2 := lenEv (l := lb) hVb hdb
      refine ⟨_, rfl, _, _, _, _, rfl, rfl, hpb, rfl, rfl, _, rfl, iteT ?_⟩
      refine ⟨_, rfl, _, _, _, _, rfl, rfl, hpf, rfl, rfl, _, rfl, iteF ?_⟩
      refine ⟨_, rfl, _, _, _, _, rfl, rfl, hpf, rfl, lf, _, rfl, .inl hlf, _, rfl, _, _, _, _, rfl, rfl, hpb', rfl, lb, _, rfl, .inl hlb, _, _, rfl, rfl, ?_⟩
      dsimp only
      rw [decide_eq_false (show ¬ ((eb.length : Int) < (ef.length : Int)) by omega)]
      exact ⟨_, rfl, iteF (hNx _ _ ⟨rfl, Same.refl _⟩)⟩
  rintro _ H4 ⟨rfl, e4⟩
  have e04 := e03.trans e4
  refine seqM (t := tIfS _ _ _) (fun σ H' => σ = [x0, x1, some (.ref Lp), some (.bl both), some (.ref L4), x5, x6, x7, x8, some vn, some vf, some vb, some vo, none, none] ∧ Same H4 H') (fun Nx hNx => ?_) ?_
  · have hvf4 := Dp.mono e4 _ _ hvf3
    cases V2 with
    | same R =>
      obtain ⟨pf, uf, rfl, hpf, huf⟩ := two_str hvf4
      refine ⟨_, rfl, _, _, _, _, rfl, rfl, hpf, rfl, rfl, _, rfl, iteF ?_⟩
      exact hNx _ _ ⟨rfl, Same.refl _⟩
    | parted u =>
      obtain ⟨pf, uf, rfl, hpf, huf⟩ := two_str hvf4
      refine ⟨_, rfl, _, _, _, _, rfl, rfl, hpf, rfl, rfl, _, rfl, iteT ?_⟩
      obtain ⟨es, h, xs, t1, t2, w1, w2, w3, w4⟩ := isV_parted hV2
      obtain ⟨l, evv, rfl, hl, ha⟩ := huf.lstI
      have hlen : (wordEv (evs (min c1.length c2.length)) u.reverse).length ≤ 900001 := Nat.le_trans (List.length_filterMap_le _ _) (by rw [List.length_reverse]; exact hV2.1)
      have hwo := word_ok (m := min c1.length c2.length) (Nat.le_refl _) u.reverse (n := min c1.length c2.length)
      rw [w1] at ha hlen hwo
      have hle : es.length < 16000000 := by rw [List.length_append] at hlen; omega
      refine ⟨_, rfl, _, _, _, _, rfl, rfl, .of (e04 _ _ hLp), at_1, _, rfl, _, _, _, _, rfl, rfl, .of (e04 _ _ hLp), at_2, _, rfl, _, _, _, _, rfl, rfl, hpf, rfl, ?_⟩
      exact ⟨p1, p2, l, true, c1, c2, es, h, xs, t1, t2, evv, rfl, hp1.mono e04, hp2.mono e04, hl, ha, hwo, c11, by omega, c21, by omega, hle, w2, w3, w4, fun H5 e5 => ⟨_, rfl, iteF (hNx _ _ ⟨rfl, e5⟩)⟩⟩
  rintro _ H5 ⟨rfl, e5⟩
  have e05 := e04.trans e5
  refine seqM (t := tAsg _ _) (fun σ H' => H5 = H' ∧ ∃ (vq : V) (Vq : Verd), σ = [x0, x1, some (.ref Lp), some (.bl both), some (.ref L4), x5, x6, x7, x8, some vn, some vf, some vb, some vo, some vq, none] ∧ IsV both c1 c2 (min c1.length c2.length) Vq ∧ Dp K H5 vq (dV (min c1.length c2.length) Vq)) (fun Nx hNx => ?_) ?_
  · refine ⟨_, rfl, _, rfl, ?_⟩
    cases both with
    | true => exact iteT ⟨_, rfl, hNx _ _ ⟨rfl, vf, V2, rfl, hV2, Dp.mono (e4.trans e5) _ _ hvf3⟩⟩
    | false => exact iteF ⟨_, rfl, hNx _ _ ⟨rfl, vb, Vb, rfl, hVb, Dp.mono (e4.trans e5) _ _ hvb3⟩⟩
  rintro _ _ ⟨rfl, vq, Vq, rfl, hVq, hvq⟩
  refine ⟨_, rfl, _, rfl, _, rfl, _, rfl, Lp, rfl, ⟨_, .of (e05 _ _ hLp)⟩, fun D' hD' => ?_⟩
  refine lc_mapR (walk_list (xs := [V.ref p0, .ref p1, .ref p2])) (fun i v _ => ∃ x, [c0.length, c1.length, c2.length][i]? = some x ∧ v = .int (x : Nat)) (fun i v _ _ _ r => r) (by show 3 ≤ sizeLine; decide) hD' (fun H' e => Evl.ex_l e (.of (e05 _ _ hLp))) ?_ ?_
  · rintro i x H6 H7 Z hi e ⟨rfl, hx⟩ kz
    have hall : ∃ (q : Addr) (c : Chain), x = .ref q ∧ ProfAt K H7 q c ∧ [c0.length, c1.length, c2.length][i]? = some c.length := by
      rcases i with _ | _ | _ | i
      · exact ⟨p0, c0, (Option.some.inj hx).symm, hp0.mono (e05.trans e), rfl⟩
      · exact ⟨p1, c1, (Option.some.inj hx).symm, hp1.mono (e05.trans e), rfl⟩
      · exact ⟨p2, c2, (Option.some.inj hx).symm, hp2.mono (e05.trans e), rfl⟩
      · cases hx
    obtain ⟨q, c, rfl, ⟨xs, q1, q2⟩, q3⟩ := hall
    have hxl := prof_len q2
    refine ⟨rfl, _, rfl, q, xs, rfl, .inl q1, ?_⟩
    rw [hxl]
    exact kz _ _ ⟨_, q3, rfl⟩ (Same.refl _)
  intro H6 acc e6 hDacc hlacc hRR
  have hacc := acc_eq (xs := [c0.length, c1.length, c2.length]) (g := fun n : Nat => V.int (n : Nat)) (by rw [hlacc]; rfl) hRR
  subst hacc
  have e56 := e5.trans e6
  refine ⟨vn, vq, vo, D', V1, Vq, V3, c0.length, c1.length, c2.length, rfl, .of hDacc, Dp.mono (e4.trans e56) _ _ hvn3, Dp.mono e6 _ _ hvq, Dp.mono (e4.trans e56) _ _ hvo, verdOk_of hV1, verdOk_of hVq, by omega, by omega, fun hs hq => ?_, fun hs hq => ?_, fun hs hs' hq => ?_, k H6⟩
  · obtain ⟨R, rfl⟩ := isSame_ex hs
    rw [hq] at hVq
    exact thr_near hV1 (by omega) hVq hV3
  · obtain ⟨R, rfl⟩ := isSame_ex hs
    rw [hq] at hV1
    exact thr_far hVq (by omega) hV1 hV3
  · obtain ⟨R, rfl⟩ := isSame_ex hs
    obtain ⟨R', rfl⟩ := isSame_ex hs'
    obtain ⟨S, rfl⟩ := thr_same hV1 hVq (by omega) (by omega) hV3
    rfl
end
end K98
set_option Elab.async false
set_option linter.all false
set_option maxRecDepth 100000
set_option maxHeartbeats 4000000
namespace K98
open PySem PySem.Spec PyProof.Rows L2 Ru He6 TL
open C8 (Cal pe_c)
theorem at_3 {α : Type} {x y z u : α} {l : List α} : atI (x :: y :: z :: u :: l) 3 = some u := by
  unfold atI ixN
  rw [if_pos (by decide), if_pos (by simp; omega)]
  rfl
section
variable {P : Program} [IsP P] {w : World} {K : PySem.W.Frag} {mg : Str → Option Value} {base : Heap}
theorem law_t1 (T : TT K mg) (cdv : Value) (A : Around) (outer : List Env) (s : Shared) (H0 : Hp) (E : XK) (hr : Room 15 (A.deeper (envOfC "law" (defScope s_law) s.heap.objs.size (He.ga K "law") cdv))) (hgd : A.guards = some []) :
    ∃ t, PSs (cxOf CX0 P w K mg base nLaw "law" (defScope s_law) (He.ga K "law") cdv A outer s H0 E).nox ((defBody s_law).drop 7) t ∧
      ∀ (D : Ends) (H : Hp) (x0 x1 x5 x6 : Option V) (Lp L4 p0 p1 p2 a0 a1 a2 a3 : Addr) (both : Bool) (s0 s1 s2 s3 : SetD) (c0 c1 c2 : Chain), H Lp = some (.lst [.ref p0, .ref p1, .ref p2]) → H L4 = some (.lst [.ref a0, .ref a1, .ref a2, .ref a3]) →
        ProfAt K H p0 c0 → ProfAt K H p1 c1 → ProfAt K H p2 c2 → RowAt K H a0 s0 c0 → RowAt K H a1 s1 c1 → RowAt K H a2 s2 c2 → RowAt K H a3 s3 c0 →
        (∀ H', D.rt (.bl true) H') → t D [x0, x1, some (.ref Lp), some (.bl both), some (.ref L4), x5, x6, none, none, none, none, none, none, none, none] H := by
  obtain ⟨t2, h2, hq2⟩ := law_t2 (P := P) (w := w) (base := base) T cdv A outer s H0 E hr hgd
  refine ⟨_, (pss_cons (ps_set (i := 7) sc_law.nd rfl (.inl rfl) (pe_cK (cn_compare T) hr (by decide) (by rfl) (pa_cons (pe_ix ix_list (pv 4) pe_int (fun _ _ => rfl)) (pa_cons (pe_ix ix_list (pv 4) pe_int (fun _ _ => rfl)) pa_nil)) (pk_cons (pv 3) pk_nil)))
     (pss_cons (ps_set (i := 8) sc_law.nd rfl (.inl rfl) (pe_cK (cn_compare T) hr (by decide) (by rfl) (pa_cons (pe_ix ix_list (pv 4) pe_int (fun _ _ => rfl)) (pa_cons (pe_ix ix_list (pv 4) pe_int (fun _ _ => rfl)) pa_nil)) (pk_cons (pv 3) pk_nil)))
     (pss_cons (ps_if (PW.pt (pw_or (pt_not (pt_val (pe_c (ok_law_is_verdict T) hr (by decide) (by rfl) (pa_cons (pv 7) pa_nil)))) (pw_or (pt_not (pt_val (pe_c (ok_law_is_verdict T) hr (by decide) (by rfl) (pa_cons (pv 8) pa_nil)))) (pw_or (pt_cmpR op_ne (pe_ix ix_tup (pv 7) pe_int (fun _ _ => rfl)) pe_str (nomark _)) (pw_or1 (pt_cmpR op_ne (pe_ix ix_tup (pv 8) pe_int (fun _ _ => rfl)) pe_str (nomark _)))))))
 (pss_one (ps_ret pe_bl))
 pss_nil)
     (pss_cons (ps_set (i := 9) sc_law.nd rfl (.inl rfl) (pe_cK (cn_compare T) hr (by decide) (by rfl) (pa_cons (pe_ix ix_list (pv 4) pe_int (fun _ _ => rfl)) (pa_cons (pe_ix ix_list (pv 4) pe_int (fun _ _ => rfl)) pa_nil)) (pk_cons (pv 3) pk_nil)))
     (pss_cons (ps_if (pt_not (pt_val (pe_cG (okg_law_both_ways T) hr (by decide) hgd (by rfl) (pa_cons (pv 4) (pa_cons (pv 2) (pa_cons (pv 3) (pa_cons (pv 9) pa_nil)))))))
 (pss_one (ps_ret pe_bl))
 pss_nil)
     h2))))), ?_⟩
  intro D H x0 x1 x5 x6 Lp L4 p0 p1 p2 a0 a1 a2 a3 both s0 s1 s2 s3 c0 c1 c2 hLp hL4 hp0 hp1 hp2 hr0 hr1 hr2 hr3 k
  have l0 := hr0.len
  have l1 := hr1.len
  have l3 := hr3.len
  have c01 := hr0.cok.1
  have c02 := hr0.cok.2.1
  have c11 := hr1.cok.1
  have c12 := hr1.cok.2.1
  refine sq_asg ⟨_, rfl, _, _, _, _, rfl, rfl, .of hL4, at_0, _, rfl, _, _, _, _, rfl, rfl, .of hL4, at_0, _, rfl, rfl, rfl, ?_⟩
  refine ⟨a0, a0, both, s0, s0, _, rfl, hr0.at_, hr0.at_, hr0.ok, hr0.ok, hr0.univ hr0 _, fun vi H1 Vi e1 hVi hvi => ?_⟩
  obtain ⟨Ri, rfl⟩ := self_same hVi
  refine sq_asg ⟨_, rfl, _, _, _, _, rfl, rfl, .of (e1 _ _ hL4), at_0, _, rfl, _, _, _, _, rfl, rfl, .of (e1 _ _ hL4), at_3, _, rfl, rfl, rfl, ?_⟩
  refine ⟨a0, a3, both, s0, s3, _, rfl, hr0.at_.mono e1, hr3.at_.mono e1, hr0.ok, hr3.ok, hr0.univ hr3 _, fun vt H2 Vt e2 hVt hvt => ?_⟩
  rw [hr0.ch, hr3.ch] at hVt
  obtain ⟨Rt, rfl⟩ := self_same hVt
  have e02 := e1.trans e2
  have hvi2 := Dp.mono e2 _ _ hvi
  refine ⟨_, rfl, vi, _, _, rfl, hvi2, _, rfl, iteF ?_⟩
  refine ⟨_, rfl, vt, _, _, rfl, hvt, _, rfl, iteF ?_⟩
  obtain ⟨pi, ui, rfl, hpi, _⟩ := two_str hvi2
  obtain ⟨pt, ut, rfl, hpt, _⟩ := two_str hvt
  refine ⟨_, rfl, _, _, _, _, rfl, rfl, hpi, rfl, rfl, _, rfl, iteF ?_⟩
  refine ⟨_, rfl, _, _, _, _, rfl, rfl, hpt, rfl, rfl, _, rfl, iteF ?_⟩
  delta tNext
  dsimp only
  refine sq_asg ⟨_, rfl, _, _, _, _, rfl, rfl, .of (e02 _ _ hL4), at_0, _, rfl, _, _, _, _, rfl, rfl, .of (e02 _ _ hL4), at_1, _, rfl, rfl, rfl, ?_⟩
  refine ⟨a0, a1, both, s0, s1, _, rfl, hr0.at_.mono e02, hr1.at_.mono e02, hr0.ok, hr1.ok, hr0.univ hr1 _, fun vn H3 V1 e3 hV1 hvn => ?_⟩
  have e03 := e02.trans e3
  refine ⟨_, rfl, _, rfl, _, rfl, _, rfl, ?_⟩
  refine ⟨L4, Lp, both, vn, a0, a1, p0, p1, _, _, s0, s1, _, V1, rfl, .of (e03 _ _ hL4), .of (e03 _ _ hLp), hr0.at_.mono e03, hr1.at_.mono e03, hr0.ok, hr1.ok, by omega, by omega, by rw [hr0.ch]; exact hp0.mono e03, by rw [hr1.ch]; exact hp1.mono e03, hr1.univ hr0 _, hV1, hvn, fun H4 e4 => ⟨_, rfl, iteF ?_⟩⟩
  have e04 := e03.trans e4
  rw [hr0.ch, hr1.ch, l0, l1] at hV1
  rw [l0, l1] at hvn
  exact hq2 D H4 _ _ _ _ _ _ Lp L4 p0 p1 p2 a0 a1 a2 a3 both vn s0 s1 s2 c0 c1 c2 V1 (e04 _ _ hLp) (e04 _ _ hL4) (hp0.mono e04) (hp1.mono e04) (hp2.mono e04) (hr0.mono e04) (hr1.mono e04) (hr2.mono e04) hV1 (Dp.mono e4 _ _ hvn) k
end
end K98
set_option Elab.async false
set_option linter.all false
set_option maxRecDepth 100000
set_option maxHeartbeats 4000000
namespace K98
open PySem PySem.Spec PyProof.Rows L2 Ru He6 TL
open C8 (Cal pe_c)
/-! heaps that keep all but some lists -/
structure Step (S : List Addr) (H H' : Hp) : Prop where
  keep : ∀ x o, H x = some o → x ∉ S → H' x = some o
  sl : SameL H H'
theorem Step.refl {S : List Addr} (H : Hp) : Step S H H := ⟨fun _ _ e _ => e, SameL.refl _⟩
theorem Step.trans {S : List Addr} {H1 H2 H3 : Hp} (a : Step S H1 H2) (b : Step S H2 H3) : Step S H1 H3 := ⟨fun x o e n => b.keep x o (a.keep x o e n) n, a.sl.trans b.sl⟩
theorem Step.of {S : List Addr} {H H' : Hp} (e : Same H H') : Step S H H' := ⟨fun x o h _ => e x o h, SameL.of e⟩
theorem Step.k2 {S : List Addr} {b g : Addr} {c : Nat} {H H' : Hp} (k : Kept2 b g H H') (hb : BagAt H b g c) (h1 : b ∈ S) (h2 : g ∈ S) : Step S H H' :=
  ⟨fun x o e n => k x o e (fun z => n (by rw [z]; exact h1)) (fun z => n (by rw [z]; exact h2)), k.sl hb⟩
theorem Step.mut {S : List Addr} {H : Hp} {D : Addr} {ys zs : List V} (hD : D ∈ S) (h : H D = some (.lst ys)) : Step S H (upd H D (.lst zs)) :=
  ⟨fun x o e n => (upd_ne (fun z => n (by rw [z]; exact hD))).trans e, (SameL.refl _).mut h⟩
theorem ProfL.step {K : PySem.W.Frag} {S : List Addr} {H H' : Hp} {p : Addr} {c : Chain} (h : ProfL K H p c) (n : p ∉ S) (e : Step S H H') : ProfL K H' p c := by
  obtain ⟨xs, h1, h2⟩ := h
  exact ⟨xs, e.keep _ _ h1 n, Dp.monoLs e.sl _ _ (noLs_all (noL_ch c)) h2⟩
theorem SetNew.step {K : PySem.W.Frag} {S : List Addr} {H0 H H' : Hp} {a : Addr} {s : SetD} (h : SetNew K H0 H a s) (n : ∀ x ∈ S, H0 x ≠ none) (e : Step S H H') : SetNew K H0 H' a s := by
  obtain ⟨dx, pm, pk, pc, pd, ms, cs, nd, h1, h2, h3, h4⟩ := h
  have sq : ∀ {p : Addr} {xs : List V}, H0 p = none → SqL K H p xs → SqL K H' p xs := fun {p xs} hp q => by
    have np : p ∉ S := fun z => n p z hp
    rcases q with (q | ⟨o, q⟩) | q
    · exact .inl (.inl (e.keep _ _ q np))
    · exact .inl (.inr ⟨o, e.keep _ _ q np⟩)
    · exact .inr q
  refine ⟨dx, pm, pk, pc, pd, ms, cs, nd, ⟨e.sl _ _ h1.ob trivial, sq h2 h1.mks, h1.ml, fun i m hi => ?_, ?_, sq h3 h1.ck, h1.cl, fun c hc => ?_, sq h4 h1.dl, h1.dln⟩, h2, h3, h4⟩
  · obtain ⟨am, q1, dm, q2⟩ := h1.mat i m hi
    exact ⟨am, q1, dm, e.sl _ _ q2 trivial⟩
  · obtain ⟨dk, q⟩ := h1.kat
    exact ⟨dk, e.sl _ _ q trivial⟩
  · obtain ⟨dc, q⟩ := h1.cat c hc
    exact ⟨dc, e.sl _ _ q trivial⟩
theorem SetNew.at {K : PySem.W.Frag} {H0 H : Hp} {a : Addr} {s : SetD} (h : SetNew K H0 H a s) : SetAt K H a s := by
  obtain ⟨dx, pm, pk, pc, pd, ms, cs, nd, h1, _⟩ := h
  exact ⟨dx, pm, pk, pc, pd, ms, cs, nd, h1⟩
theorem SetNew.base {K : PySem.W.Frag} {H0 H1 H : Hp} {a : Addr} {s : SetD} (h : SetNew K H1 H a s) (f : ∀ x, H1 x = none → H0 x = none) : SetNew K H0 H a s := by
  obtain ⟨dx, pm, pk, pc, pd, ms, cs, nd, h1, h2, h3, h4⟩ := h
  exact ⟨dx, pm, pk, pc, pd, ms, cs, nd, h1, f _ h2, f _ h3, f _ h4⟩
theorem Step.free {S : List Addr} {H0 H1 : Hp} (e : Step S H0 H1) (n : ∀ x ∈ S, H1 x ≠ none) (x : Addr) (h : H1 x = none) : H0 x = none := by
  cases q : H0 x with
  | none => rfl
  | some o =>
    have := e.keep x o q (fun z => n x z h)
    rw [this] at h; cases h
theorem bools_of : ∀ {acc : List V}, (∀ v ∈ acc, ∃ r : Bool, v = V.bl r) → ∃ l : List Bool, acc = l.map V.bl
  | [], _ => ⟨[], rfl⟩
  | v :: vs, h => by
    obtain ⟨r, rfl⟩ := h v (List.mem_cons_self ..)
    obtain ⟨l, e1⟩ := bools_of (acc := vs) fun x hx => h x (List.mem_cons_of_mem _ hx)
    exact ⟨r :: l, by rw [e1]; rfl⟩
def sp_law (K : PySem.W.Frag) : Sp := fun vs H Q _ => ∃ (a : Addr) (ns : List Int), vs = [.ref a] ∧ SqL K H a (ns.map V.int) ∧ ns.length ≤ 63 ∧ ∀ H', Q (.bl true) H'
section
variable {P : Program} [IsP P] {w : World} {K : PySem.W.Frag} {mg : Str → Option Value}
theorem ok_law (T : TT K mg) : ∃ fd, (∀ (s : Shared) (u : Value), BindsTo s fd ⟨[u], []⟩ [(("_law_script" : Str), u)]) ∧ ∀ base : Heap, FnG P w K mg base CX0 16 (He.ga K "law") fd ["_law_script"] (sp_law K) := by
  obtain ⟨fd, F⟩ := f_law T
  obtain ⟨oc, od, dV, kV, doc, pm, an, cdv, ct, osl, rfl, lk, hcd, hdv, hkv⟩ := id F.ex
  rcases hdv with ⟨_, rfl⟩ | ⟨e, _⟩
  · refine ⟨_, fun s u => BindsTo.of_eq (by rfl), fun base => fn_ofG lk hcd sc_law (fun vs H Q E h => ?_) (fun A outer s H vs Q E hr hgd h => ?_)⟩
    · obtain ⟨a, ns, rfl, _⟩ := h; rfl
    obtain ⟨t1, h1, hq1⟩ := law_t1 (P := P) (w := w) (base := base) T cdv A outer s H E hr hgd
    refine ⟨_, PSs.nox (pss_cons (ps_set (i := 1) sc_law.nd rfl (.inr rfl) (pe_c (ok_law_bag T) hr (by decide) (by rfl) (pa_cons (pv 0) pa_nil)))
     (pss_cons (ps_set (i := 2) sc_law.nd rfl (.inl rfl) (pe_lst (pa_cons (pe_c (ok_law_profile T) hr (by decide) (by rfl) (pa_cons (pv 1) pa_nil)) pa_nil)))
     (pss_cons (ps_expr (pe_bm PySem.F.plainAttrs_list PySem.F.slot_list_append PySem.F.type_list_append mt_append (pv 2) (pa_cons (pe_c (ok_law_other T) hr (by decide) (by rfl) (pa_cons (pv 1) (pa_cons (pe_ix ix_list (pv 2) pe_int (fun _ _ => rfl)) pa_nil))) pa_nil)))
     (pss_cons (ps_expr (pe_bm PySem.F.plainAttrs_list PySem.F.slot_list_append PySem.F.type_list_append mt_append (pv 2) (pa_cons (pe_c (ok_law_other T) hr (by decide) (by rfl) (pa_cons (pv 1) (pa_cons (pe_ix ix_list (pv 2) pe_int (fun _ _ => rfl)) pa_nil))) pa_nil)))
     (pss_cons (ps_set (i := 3) sc_law.nd rfl (.inl rfl) (pe_cmpR op_ne (pe_c (ok_law_take T) hr (by decide) (by rfl) (pa_cons (pv 1) (pa_cons pe_int pa_nil))) pe_int (nomark _)))
     (pss_cons (ps_set (i := 4) sc_law.nd rfl (.inl rfl) (pe_lst pa_nil))
     (pss_cons (ps_for PassesOwn.never rfl (pi_list (pe_op op_cat (pv 2) (pe_lst (pa_cons (pe_ix ix_list (pv 2) pe_int (fun _ _ => rfl)) pa_nil)))) (pg_name (i := 5) sc_law.nd rfl (.inl rfl))
 (pss_cons (ps_setLc (i := 6) (own := [("_law_row", 14)]) (g := (gName 14)) (tt := tYes) rfl sc_law.nd rfl rfl (sw_true rfl rfl rfl (by decide +kernel)) (pi_list (pv 5)) (blkOk_by (own := [("_law_row", 14)]) (N := ["_law_script", "_law_bag_here", "_law_profiles", "_law_both", "_law_rows", "_law_profile_here", "_law_solid", "_law_itself", "_law_twin", "_law_near", "_law_full", "_law_bare", "_law_outer", "_law_far", "_law_row"]) (sc := defScope s_law) (by decide +kernel)) (fun _ _ _ _ _ => (pg_name (i := 14) sc_law.nd rfl (.inl rfl))) (fun _ _ _ _ _ => pts_nil) (fun _ _ _ _ _ => (pe_cmpR op_eq (pe_c (ok_law_take T) hr (by decide) (by rfl) (pa_cons (pv 1) (pa_cons pe_int pa_nil))) pe_int (nomark _))))
 (pss_one (ps_expr (pe_bm PySem.F.plainAttrs_list PySem.F.slot_list_append PySem.F.type_list_append mt_append (pv 4) (pa_cons (pe_c (ok_law_setting (P := P) T) hr (by decide) (by rfl) (pa_cons (pv 1) (pa_cons (pv 5) (pa_cons (pv 6) pa_nil)))) pa_nil))))))
     h1))))))), ?_⟩
    obtain ⟨a, ns, rfl, ha, hn, k⟩ := h
    refine sq_asg ⟨_, rfl, a, ns, rfl, ha, hn, fun b g H1 e1 hb0 hg0 hbg b1 => ?_⟩
    dsimp only
    refine sq_asg ⟨_, rfl, b, g, 0, rfl, b1, hbg, by decide, fun p0 c0 H2 l0 h0 k2 b2 hp00 hp0 => ⟨by show 1 ≤ sizeLine; decide, fun Lp hLp => ?_⟩⟩
    dsimp only
    have ck0 : chOk c0 := ⟨l0.1, l0.2, fun h hh => ⟨(h0 h hh).1, by have := (h0 h hh).2; omega⟩⟩
    have np0 : p0 ≠ b ∧ p0 ≠ g := b1.nb hp00
    have nLp : Lp ≠ b ∧ Lp ≠ g := b2.nb hLp
    have hp0x := hp0
    obtain ⟨xs0, hx0, _⟩ := hp0x
    have p0L : p0 ≠ Lp := ne_of_none hx0 hLp
    have e3 : Same H2 (upd H2 Lp (.lst [.ref p0])) := same_new hLp
    have hLp3 : (upd H2 Lp (.lst [.ref p0])) Lp = some (.lst [.ref p0]) := upd_same
    have b3 := b2.mono e3
    have hp03 : ProfL K (upd H2 Lp (.lst [.ref p0])) p0 c0 := hp0.step (S := []) (fun z => nomatch z) (.of e3)
    generalize upd H2 Lp (.lst [.ref p0]) = H3 at e3 hLp3 b3 hp03
    -- the second profile
    refine ⟨_, rfl, .inl ⟨rfl, _, .of hLp3⟩, _, rfl, _, rfl, _, _, _, _, rfl, rfl, .of hLp3, at_0, ?_⟩
    refine ⟨b, g, _, p0, c0, rfl, b3, hbg, by omega, ⟨hp03, np0.1, np0.2⟩, ck0, fun p1 c1 H4 ⟨k4, b4, hp10, ck1, xs1, hx1, hd1⟩ => ?_⟩
    have nS : ∀ {q : Addr}, q ≠ b → q ≠ g → q ≠ Lp → q ∉ [b, g, Lp] := fun h1 h2 h3 z => by
      simp only [List.mem_cons, List.not_mem_nil, or_false] at z
      rcases z with z | z | z
      · exact h1 z
      · exact h2 z
      · exact h3 z
    have s4 : Step [b, g, Lp] H3 H4 := .k2 k4 b3 (by simp) (by simp)
    have hLp4 := k4 _ _ hLp3 nLp.1 nLp.2
    have np1 : p1 ≠ b ∧ p1 ≠ g := b3.nb hp10
    have p1L : p1 ≠ Lp := fun z => by rw [z, hLp3] at hp10; cases hp10
    refine ⟨Lp, _, _, rfl, rfl, hLp4, by show 1 < sizeLine; decide, ?_⟩
    have s5 := s4.trans (.mut (zs := [V.ref p0] ++ [V.ref p1]) (by simp) hLp4)
    have hp15 : ProfL K (upd H4 Lp (.lst ([V.ref p0] ++ [V.ref p1]))) p1 c1 := ProfL.step (S := [b, g, Lp]) ⟨xs1, hx1, hd1⟩ (nS np1.1 np1.2 p1L) (.mut (by simp) hLp4)
    have hp05 := hp03.step (nS np0.1 np0.2 p0L) s5
    have b5 := b4.upd (o := .lst ([V.ref p0] ++ [V.ref p1])) nLp.1 nLp.2
    have hLp5 : (upd H4 Lp (.lst ([V.ref p0] ++ [V.ref p1]))) Lp = some (.lst [V.ref p0, V.ref p1]) := upd_same
    dsimp only
    generalize upd H4 Lp (.lst ([V.ref p0] ++ [V.ref p1])) = H5 at s5 hp15 hp05 b5 hLp5
    -- the third
    refine ⟨_, rfl, .inl ⟨rfl, _, .of hLp5⟩, _, rfl, _, rfl, _, _, _, _, rfl, rfl, .of hLp5, at_1, ?_⟩
    refine ⟨b, g, _, p1, c1, rfl, b5, hbg, by omega, ⟨hp15, np1.1, np1.2⟩, ck1, fun p2 c2 H6 ⟨k6, b6, hp20, ck2, xs2, hx2, hd2⟩ => ?_⟩
    have s6 : Step [b, g, Lp] H5 H6 := .k2 k6 b5 (by simp) (by simp)
    have hLp6 := k6 _ _ hLp5 nLp.1 nLp.2
    have np2 : p2 ≠ b ∧ p2 ≠ g := b5.nb hp20
    have p2L : p2 ≠ Lp := fun z => by rw [z, hLp5] at hp20; cases hp20
    refine ⟨Lp, _, _, rfl, rfl, hLp6, by show 2 < sizeLine; decide, ?_⟩
    have s7 := s6.trans (.mut (zs := [V.ref p0, V.ref p1] ++ [V.ref p2]) (by simp) hLp6)
    have hp27 : ProfL K (upd H6 Lp (.lst ([V.ref p0, V.ref p1] ++ [V.ref p2]))) p2 c2 := ProfL.step (S := [b, g, Lp]) ⟨xs2, hx2, hd2⟩ (nS np2.1 np2.2 p2L) (.mut (by simp) hLp6)
    have hp17 := hp15.step (nS np1.1 np1.2 p1L) s7
    have hp07 := hp05.step (nS np0.1 np0.2 p0L) s7
    have b7 := b6.upd (o := .lst ([V.ref p0, V.ref p1] ++ [V.ref p2])) nLp.1 nLp.2
    have hLp7 : (upd H6 Lp (.lst ([V.ref p0, V.ref p1] ++ [V.ref p2]))) Lp = some (.lst [V.ref p0, V.ref p1, V.ref p2]) := upd_same
    dsimp only
    generalize upd H6 Lp (.lst ([V.ref p0, V.ref p1] ++ [V.ref p2])) = H7 at s7 hp27 hp17 hp07 b7 hLp7
    -- both
    refine sq_asg ⟨_, rfl, b, g, _, 3, rfl, b7, hbg, by decide, by decide, by omega, fun rb H8 hrb k8 b8 => ⟨rfl, ?_⟩⟩
    have s8 : Step [b, g, Lp] H7 H8 := .k2 k8 b7 (by simp) (by simp)
    have hLp8 := k8 _ _ hLp7 nLp.1 nLp.2
    have hp08 := hp07.step (nS np0.1 np0.2 p0L) s8
    have hp18 := hp17.step (nS np1.1 np1.2 p1L) s8
    have hp28 := hp27.step (nS np2.1 np2.2 p2L) s8
    generalize (!decide (V.int (rb : Nat) = V.int 2)) = both
    dsimp only
    -- rows
    refine sq_asg ⟨by show 0 ≤ sizeLine; decide, fun L4 hL4 => ?_⟩
    dsimp only
    have n4 := b8.nb hL4
    have n4L : L4 ≠ Lp := fun z => by rw [z, hLp8] at hL4; cases hL4
    have n4p : ∀ {q : Addr} {c : Chain}, ProfL K H8 q c → q ≠ L4 := fun {q c} h z => by
      obtain ⟨xs, hx, _⟩ := h
      rw [z, hL4] at hx; cases hx
    have p04 := n4p hp08
    have p14 := n4p hp18
    have p24 := n4p hp28
    have e9 : Same H8 (upd H8 L4 (.lst [])) := same_new hL4
    have hL49 : (upd H8 L4 (.lst [])) L4 = some (.lst []) := upd_same
    have b9 := b8.mono e9
    have hLp9 := e9 _ _ hLp8
    have f9 : ∀ {q : Addr} {c : Chain}, ProfL K H8 q c → ProfL K (upd H8 L4 (.lst [])) q c := fun h => h.step (S := []) (fun z => nomatch z) (.of e9)
    have hp09 := f9 hp08
    have hp19 := f9 hp18
    have hp29 := f9 hp28
    clear hp08 hp18 hp28 f9 n4p
    generalize upd H8 L4 (.lst []) = H9 at e9 hL49 b9 hLp9 hp09 hp19 hp29
    have nS4 : ∀ {q : Addr}, q ≠ b → q ≠ g → q ≠ Lp → q ≠ L4 → q ∉ [b, g, Lp, L4] := fun h1 h2 h3 h4 z => by
      simp only [List.mem_cons, List.not_mem_nil, or_false] at z
      rcases z with z | z | z | z
      · exact h1 z
      · exact h2 z
      · exact h3 z
      · exact h4 z
    have in9 : ∀ x ∈ [b, g, Lp, L4], H9 x ≠ none := fun x hx z => by
      simp only [List.mem_cons, List.not_mem_nil, or_false] at hx
      rcases hx with rfl | rfl | rfl | rfl
      · obtain ⟨_, q⟩ := b9.b; rw [q] at z; cases z
      · obtain ⟨_, q⟩ := b9.g; rw [q] at z; cases z
      · rw [hLp9] at z; cases z
      · rw [hL49] at z; cases z
    have pn : ∀ (i : Nat) (x : V), [V.ref p0, .ref p1, .ref p2, .ref p0][i]? = some x → ∃ q c, x = .ref q ∧ [c0, c1, c2, c0][i]? = some c ∧ ProfL K H9 q c ∧ q ∉ [b, g, Lp, L4] ∧ q ≠ b ∧ q ≠ g ∧ chOk c := fun i x hx => by
      rcases i with _ | _ | _ | _ | i
      · exact ⟨p0, c0, (Option.some.inj hx).symm, rfl, hp09, nS4 np0.1 np0.2 p0L p04, np0.1, np0.2, ck0⟩
      · exact ⟨p1, c1, (Option.some.inj hx).symm, rfl, hp19, nS4 np1.1 np1.2 p1L p14, np1.1, np1.2, ck1⟩
      · exact ⟨p2, c2, (Option.some.inj hx).symm, rfl, hp29, nS4 np2.1 np2.2 p2L p24, np2.1, np2.2, ck2⟩
      · exact ⟨p0, c0, (Option.some.inj hx).symm, rfl, hp09, nS4 np0.1 np0.2 p0L p04, np0.1, np0.2, ck0⟩
      · cases hx
    refine seqM (t := tFor _ _ _) (fun σ H' => ∃ x5 x6, σ = [some (.ref a), some (.ref b), some (.ref Lp), some (.bl both), some (.ref L4), x5, x6, none, none, none, none, none, none, none, none] ∧ Step [b, g, Lp, L4] H9 H' ∧ H' Lp = some (.lst [.ref p0, .ref p1, .ref p2]) ∧ ∃ as : List Addr, as.length = 4 ∧ H' L4 = some (.lst (as.map V.ref)) ∧ ∀ (j : Nat) (aj : Addr), as[j]? = some aj → ∃ s c, SetNew K H9 H' aj s ∧ SetOk s ∧ chainOf s = c ∧ chOk c ∧ [c0, c1, c2, c0][j]? = some c) (fun Nx hNx => ?_) ?_
    · refine ⟨_, rfl, _, rfl, _, _, _, _, rfl, rfl, .of hLp9, at_0, by show 1 ≤ sizeLine; decide, fun n1 hn1 => ?_⟩
      have e10 : Same H9 (upd H9 n1 (.lst [.ref p0])) := same_new hn1
      refine ⟨Lp, n1, _, _, rfl, rfl, e10 _ _ hLp9, upd_same, by show 3 + 1 ≤ sizeLine; decide, fun Lq hLq => ?_⟩
      have e11 := e10.trans (same_new (o := .lst ([V.ref p0, V.ref p1, V.ref p2] ++ [V.ref p0])) hLq)
      have nq : Lq ∉ [b, g, Lp, L4] := fun z => in9 Lq z (by
        cases q : H9 Lq with
        | none => rfl
        | some o => rw [e10 _ _ q] at hLq; cases hLq)
      refine ⟨Lq, rfl, ⟨_, .of upd_same⟩, ?_⟩
      have hLq1 : (upd (upd H9 n1 (.lst [.ref p0])) Lq (.lst ([V.ref p0, V.ref p1, V.ref p2] ++ [V.ref p0]))) Lq = some (.lst [V.ref p0, .ref p1, .ref p2, .ref p0]) := upd_same
      generalize upd (upd H9 n1 (.lst [.ref p0])) Lq (.lst ([V.ref p0, V.ref p1, V.ref p2] ++ [V.ref p0])) = H11 at e11 hLq1
      refine for_it (walk_list (xs := [V.ref p0, .ref p1, .ref p2, .ref p0])) (fun i σ H' => ∃ x5 x6, σ = [some (.ref a), some (.ref b), some (.ref Lp), some (.bl both), some (.ref L4), x5, x6, none, none, none, none, none, none, none, none] ∧ Step [b, g, Lp, L4] H11 H' ∧ H' Lp = some (.lst [.ref p0, .ref p1, .ref p2]) ∧ BagAt H' b g (48 + 45 * i) ∧ ∃ as : List Addr, as.length = i ∧ H' L4 = some (.lst (as.map V.ref)) ∧ ∀ (j : Nat) (aj : Addr), as[j]? = some aj → ∃ s c, SetNew K H9 H' aj s ∧ SetOk s ∧ chainOf s = c ∧ chOk c ∧ [c0, c1, c2, c0][j]? = some c) ?_ (fun i σ H' _ ⟨_, _, _, q, _⟩ => .of (q.keep _ _ hLq1 nq)) ?_ ?_
      · exact ⟨_, _, rfl, .refl _, e11 _ _ hLp9, (b9.mono e11).le (by omega), [], rfl, e11 _ _ hL49, fun j aj hj => by cases hj⟩
      · rintro i x σ H12' H12 hi ⟨x5, x6, rfl, st, hLp12, b12, as, hal, hL412, has⟩ ⟨rfl, hx⟩
        obtain ⟨q, c, rfl, hqc, hq2, hq3, hq4, hq5, hq6⟩ := pn i x hx
        have st9 := (Step.of (S := [b, g, Lp, L4]) e11).trans st
        have hi4 : i < 4 := hi
        have hq12 := hq2.step hq3 st9
        obtain ⟨qx, hqx, hqd⟩ := id hq12
        have hql := prof_len hqd
        have hc2 := hq6.2.1
        refine sq_asg ⟨_, rfl, q, rfl, ⟨qx, .of hqx⟩, fun D hD => ?_⟩
        have nD := b12.nb hD
        refine lc_mapB (48 + 45 * i) 1 (walk_list (xs := qx)) (fun j v _ => ∃ x : Bool, v = .bl x) (fun j v H1 H2 e h => h) (by rw [hql]; exact Nat.le_trans hc2 (by decide)) hD b12 (fun H' e => .of (e _ _ hqx hq4 hq5)) ?_ ?_
        · rintro j y Ha Hb Z hj e be ⟨rfl, hy⟩ kz
          refine ⟨rfl, _, rfl, b, g, _, 2, rfl, be, hbg, by decide, by decide, by omega, fun r Hc hr' k' b' => ⟨rfl, ?_⟩⟩
          exact kz _ _ ⟨_, rfl⟩ k' (b'.le (by omega))
        intro H13 acc k13 b13 hDacc hlacc hR
        obtain ⟨bs, rfl⟩ := bools_of (acc := acc) fun v hv => by
          obtain ⟨j, hj⟩ := List.mem_iff_getElem?.mp hv
          exact hR j v hj
        rw [List.length_map] at hlacc
        have hL413 := k13 _ _ hL412 n4.1 n4.2
        have hLp13 := k13 _ _ hLp12 nLp.1 nLp.2
        have s13 : Step [b, g, Lp, L4] H12 H13 := .k2 k13 b12 (by simp) (by simp)
        have hq13 := hq12.step hq3 s13
        refine ⟨_, rfl, .inl ⟨rfl, _, .of hL413⟩, _, rfl, _, rfl, _, rfl, ?_⟩
        refine ⟨b, g, _, q, D, c, bs, rfl, b13, hbg, by omega, ⟨hq13, hq4, hq5⟩, hq6, hDacc, by omega, nD.1, nD.2, fun aj sj H14 hsok hsch k14 b14 hnew => ?_⟩
        have hL414 := k14 _ _ hL413 n4.1 n4.2
        have hLp14 := k14 _ _ hLp13 nLp.1 nLp.2
        have sm : Step [b, g, Lp, L4] H14 (upd H14 L4 (.lst (as.map V.ref ++ [V.ref aj]))) := .mut (by simp) hL414
        have s14 : Step [b, g, Lp, L4] H12 (upd H14 L4 (.lst (as.map V.ref ++ [V.ref aj]))) := (s13.trans (.k2 k14 b13 (by simp) (by simp))).trans sm
        have in13 : ∀ x ∈ [b, g, Lp, L4], H13 x ≠ none := fun x hx z => by
          simp only [List.mem_cons, List.not_mem_nil, or_false] at hx
          rcases hx with rfl | rfl | rfl | rfl
          · obtain ⟨_, q⟩ := b13.b; rw [q] at z; cases z
          · obtain ⟨_, q⟩ := b13.g; rw [q] at z; cases z
          · rw [hLp13] at z; cases z
          · rw [hL413] at z; cases z
        refine ⟨L4, _, _, rfl, rfl, hL414, ?_, _, _, rfl, st.trans s14, ?_, (b14.upd n4.1 n4.2).le (by omega), as ++ [aj], by simp [hal], ?_, fun j a' hj => ?_⟩
        · rw [List.length_map, hal]
          exact Nat.lt_trans hi4 (by decide)
        · rw [upd_ne (Ne.symm n4L)]; exact hLp14
        · rw [upd_same, List.map_append]; rfl
        · by_cases cj : j < as.length
          · rw [List.getElem?_append_left cj] at hj
            obtain ⟨s', c', g1, g2⟩ := has j a' hj
            exact ⟨s', c', g1.step in9 s14, g2⟩
          · rw [List.getElem?_append_right (by omega)] at hj
            have hz : j - as.length = 0 := by
              have := (List.getElem?_eq_some_iff.mp hj).1
              simp at this; omega
            rw [hz] at hj
            cases hj
            have ej : j = i := by omega
            subst ej
            exact ⟨sj, c, (hnew.base (Step.free (st9.trans s13) in13)).step in9 sm, hsok, hsch, hq6, hqc⟩
      · rintro σ H12 ⟨x5, x6, rfl, st, hLp12, b12, as, hal, hL412, has⟩
        exact hNx _ _ ⟨_, _, rfl, (Step.of e11).trans st, hLp12, as, hal, hL412, has⟩
    rintro _ H20 ⟨x5, x6, rfl, st, hLp20, as, hal, hL420, has⟩
    match as, hal, hL420, has with
    | [a0, a1, a2, a3], _, hL420, has =>
      obtain ⟨s0, d0, g1, g2, g3, g4, g5⟩ := has 0 a0 rfl
      obtain ⟨s1, d1, i1, i2, i3, i4, i5⟩ := has 1 a1 rfl
      obtain ⟨s2, d2, j1, j2, j3, j4, j5⟩ := has 2 a2 rfl
      obtain ⟨s3, d3, m1, m2, m3, m4, m5⟩ := has 3 a3 rfl
      cases g5; cases i5; cases j5; cases m5
      exact hq1 _ H20 _ _ _ _ Lp L4 p0 p1 p2 a0 a1 a2 a3 both s0 s1 s2 s3 c0 c1 c2 hLp20 hL420 (hp09.step (nS4 np0.1 np0.2 p0L p04) st).at (hp19.step (nS4 np1.1 np1.2 p1L p14) st).at (hp29.step (nS4 np2.1 np2.2 p2L p24) st).at ⟨g1.at, g2, g3, g4⟩ ⟨i1.at, i2, i3, i4⟩ ⟨j1.at, j2, j3, j4⟩ ⟨m1.at, m2, m3, m4⟩ k
  · exact absurd rfl e
end
end K98
set_option Elab.async false
set_option linter.all false
set_option maxRecDepth 100000
set_option maxHeartbeats 0
namespace K98
open PySem PySem.Spec PyProof.Rows L2 Ru He6 TL
theorem tt_of {K : PySem.W.Frag} {mg : Str → Option Value} {h : Heap} (X : K.In h) (G : h.Ns mainGlobals mg) (c : He6.SaysZ faL fnL clL exB K) : TT K mg :=
  ⟨c, fun x hx => He.glo_ok X G (c.fact hx), fun x hx => He.free_ok X G (c.fact hx), fun x i hx => He.int_ok X G (c.fact hx), fun x z hx => He.str_ok X G (c.fact hx)⟩
instance : IsP PySem.Challenge.rw_hopkeep_k98_alike_is_an_order_of_equals.prog := ⟨rfl⟩
end K98
open PySem PySem.W PySem.Calls PyProof.Rows
theorem PySem.Challenge.cw_hopkeep_k98_alike_is_an_order_of_equals_holds : PySem.Challenge.rw_hopkeep_k98_alike_is_an_order_of_equals.Holds := by
  w_on; o_law
  refine HandSHeadRun.head_any (r := OpenLaw.row PySem.Challenge.rw_hopkeep_k98_alike_is_an_order_of_equals) (q := view (OpenLaw.row PySem.Challenge.rw_hopkeep_k98_alike_is_an_order_of_equals).prog [K98.lawAt]) (H := K98.hk) (ob := K98.ob) (M := 6000) (loose := K98.looseL) (d := HandSHeadRun.topDef (OpenLaw.row PySem.Challenge.rw_hopkeep_k98_alike_is_an_order_of_equals).prog K98.lawAt) (kwd := []) K98.ob_eq
    (by kernel_rfl) (fun s => by kernel_rfl) K98.run (by kernel_rfl) (by kernel_rfl) (by kernel_rfl) (by rfl) (by first | assumption | decide +kernel) (by decide +kernel) ⟨rfl, rfl, rfl, rfl, rfl, by decide +kernel⟩ ?hw ?hc
  case hw => w_witness2
  case hc =>
    refine Ru.walk_ofG (l := PySem.Challenge.rw_hopkeep_k98_alike_is_an_order_of_equals) (n := 63) (k := 16) (x := "_law_script") (CX := C8.CX0) rfl (by decide) (by kernel_rfl) ⟨rfl, by decide, by decide⟩ ?F (fun _ _ _ _ z => z)
    intro w mg fa h Y G hmg0
    obtain ⟨K, KX, c⟩ := Y
    have hmg : mg ("law" : PySem.Str) = some (.ref fa) := by
      have e : (HandSHeadRun.topDef (OpenLaw.row PySem.Challenge.rw_hopkeep_k98_alike_is_an_order_of_equals).prog K98.lawAt).name = ("law" : PySem.Str) := by kernel_rfl
      rw [← e]
      exact hmg0
    have T := K98.tt_of KX G c
    have eg := hmg.symm.trans (K98.g_law T)
    cases eg
    obtain ⟨fd, hb, hF⟩ := K98.ok_law (P := (PySem.Challenge.rw_hopkeep_k98_alike_is_an_order_of_equals).prog) (w := w) T
    exact ⟨K, fd, K98.sp_law K, KX, hb, fun H a ns hl _ hS => ⟨a, ns, rfl, hS, hl, fun _ => rfl⟩, fun base _ _ => hF base⟩
