import PyProof.Rows.All
import Wide.All
import OpenK.AllK
import Wide.FinOn
import KE.KStateDown
import KE.KFromBytes
import HandS.ForMost
import HandS.ForExc
import HandS.Defaults
import HandS.Property
import HandS.MakeKwOnly
import HandS.Head0
import HandS.Head1
import HandS.Head2
import HandS.HeadEnd
import HandS.HeadHook1
import HandS.HeadHook2
import HandS.ExcField
import KE.KExcSuper
import HandS.ExcCtx
import HandS.Hot
import HandS.HotCalls
import HandS.SuiteRaise
import HandS.RaiseFrom
import HandS.ExcInit
import HandS.Finally
import KE.KExcTry
import HandS.IsInst
import KE.KEqDict
import HandS.OwnEq
import PyProof.EqAt
import PyProof.EqKinds
import PyProof.TupleCall
import OpenK.KMeth
import HandS.More
import HandS.Walk
import KE.GoesMore
import KE.GoesEnum
import HandS.DictComp
import HandS.Conv
import HandS.SortOrd
import HandS.SortKw
import KE.KSortKey
import PyProof.Rows.MatchSeqLen
import HandS.TupAny
import HandS.Style
import PyProof.StrBlock2
import PySem.Challenge.RW_farenough_k98_whole_deeds_with_one_thing
/-! K98Head -/
set_option Elab.async false
set_option linter.all false
set_option maxRecDepth 100000
set_option maxHeartbeats 0
/-! The head: where each def of the text stands behind the top, and what is known of the classes. -/
namespace K98
open PySem PySem.Spec PyProof.Rows L2
abbrev Fg := PySem.W.Frag
def top (i : Nat) : Stmt := PySem.Challenge.pw_farenough_k98_whole_deeds_with_one_thing.main.body.getD i (.Pass ⟨0, 0, 0, 0⟩)
/-- the property f of the class named C: its object, its getter -/
def pAd (K : Fg) (C f : Str) : Addr := match PySem.W.findIn K (.ref (He.ga K C)) f with
  | some (some (.ref p)) => p
  | _ => 0
def gAd (K : Fg) (C f : Str) : Addr := match PySem.W.recIn K (pAd K C f) "property" with
  | some (.ref g :: _) => g
  | _ => 0
def propB (K : Fg) (C f : Str) : Bool := He.eqO (PySem.W.findIn K (.ref (He.ga K C)) f) (some (some (.ref (pAd K C f)))) &&
  (He.eqO (PySem.W.specialIn K (.ref (pAd K C f)) "__get__") (some (some (.builtin "property.__get__"))) && (decide (PySem.W.takesIn K (.ref (pAd K C f)) = some true) &&
  (match PySem.W.recIn K (pAd K C f) "property" with
    | some (.ref g :: _) => decide (g = gAd K C f)
    | _ => false)))
theorem propB_ok {K : Fg} {C f : Str} (h : propB K C f = true) : PropOf K (He.ga K C) f (pAd K C f) (gAd K C f) := by
  obtain ⟨h1, h2⟩ := He.ba h
  obtain ⟨h3, h4⟩ := He.ba h2
  obtain ⟨h5, h6⟩ := He.ba h4
  refine ⟨He.eqO_ok h1, He.eqO_ok h3, of_decide_eq_true h5, ?_⟩
  cases e : PySem.W.recIn K (pAd K C f) "property" with
  | none => rw [e] at h6; cases h6
  | some l =>
    rw [e] at h6
    cases l with
    | nil => cases h6
    | cons v r =>
      cases v with
      | ref g =>
        have eg : g = gAd K C f := of_decide_eq_true h6
        exact ⟨r, by rw [eg]⟩
      | _ => cases h6
/-- where a def stands: a global, a method, a property's getter -/
inductive Wh where
  | g (x : Str)
  | m (C f : Str)
  | p (C f : Str)
def Wh.ad (K : Fg) : Wh → Addr
  | .g x => He.ga K x
  | .m C f => He.ma K (He.ga K C) f
  | .p C f => gAd K C f
/-- one def of the text -/
structure DD where
  wh : Wh
  name : Str
  qual : Str
  st : Stmt
  dfl : List He.Dv := []
  kwd : List (Str × He.Dv) := []
abbrev FnC : Type := Option (Str × Str × Arguments × FuncBody × Scope × Addr × List Str × Addr)
def fnC (K : Fg) (a : Addr) : FnC := match K.lookup a with
  | some ⟨_, _, .func fd, _⟩ => some (fd.name, fd.qualname, fd.params, fd.body, fd.scope, fd.globals, fd.closure.map (·.1), fd.builtins)
  | _ => none
def DD.val (d : DD) : FnC := some (d.name, d.qual, defArgs d.st, .stmts (defBody d.st), defScope d.st, mainGlobals, [], builtinsNs)
def DD.dvs (K : Fg) (d : DD) : List V := d.dfl.map (He.Dv.v K)
def DD.kws (K : Fg) (d : DD) : List (Str × V) := d.kwd.map fun q => (q.1, q.2.v K)
def DD.ok (K : Fg) (d : DD) : Bool := PySem.W.keepIn K (.ref (d.wh.ad K)) && (match K.lookup (d.wh.ad K) with
  | some ⟨_, _, .func fd, _⟩ => PySem.W.codeIn K fd.code d.qual && (He.dflB K fd.defaults (d.dvs K) && He.kwdB K fd.kwdefaults (d.kws K))
  | _ => false)
theorem map_nil_of {α β : Type} {f : α → β} {l : List α} (h : l.map f = []) : l = [] := by
  cases l with
  | nil => rfl
  | cons _ _ => cases h
theorem DD.funD {K : Fg} {d : DD} (e : fnC K (d.wh.ad K) = d.val) (c : d.ok K = true) :
    ∃ fd, FunD K d.name d.qual (defArgs d.st) (defBody d.st) (defScope d.st) (d.dvs K) (d.kws K) (d.wh.ad K) fd := by
  obtain ⟨kp, c2⟩ := He.ba c
  unfold fnC at e
  cases q : K.lookup (d.wh.ad K) with
  | none =>
    rw [q] at c2
    cases c2
  | some o =>
    obtain ⟨oc, od, dt, osl⟩ := o
    rw [q] at c2 e
    cases dt with
    | func fd =>
      obtain ⟨n1, n2, n3, n4, n5, n6, n7, n8, n9, n10, n11, n12, n13, n14, n15⟩ := fd
      have e2 : (some (n1, n2, n3, n4, n5, n6, n7.map (·.1), n15) : FnC) = some (d.name, d.qual, defArgs d.st, .stmts (defBody d.st), defScope d.st, mainGlobals, [], builtinsNs) := e
      simp only [Option.some.injEq, Prod.mk.injEq] at e2
      obtain ⟨h1, h2, h3, h4, h5, h6, h7, h8⟩ := e2
      have h9 := map_nil_of h7
      subst h1 h2 h3 h4 h5 h6 h8 h9
      obtain ⟨k1, k2⟩ := He.ba (show (PySem.W.codeIn K n13 d.qual && (He.dflB K n8 (d.dvs K) && He.kwdB K n9 (d.kws K))) = true from c2)
      obtain ⟨k3, k4⟩ := He.ba k2
      exact ⟨_, ⟨oc, od, n8, n9, n10, n11, n12, n13, n14, osl, rfl, q, k1, He.dflB_ok k3, He.kwdB_ok k4⟩, kp⟩
    | _ => cases c2
/-! ### the one def with a cell: __init__ of Failed -/
def fI (K : Fg) : Addr := He.ma K (He.ga K "Failed") "__init__"
def cellOfI (K : Fg) : Addr := match K.lookup (fI K) with
  | some ⟨_, _, .func fd, _⟩ => (match fd.closure with
    | [(_, c)] => c
    | _ => 0)
  | _ => 0
abbrev sFail : Stmt := inClass (top 11) 0
def valI : FnC := some ("__init__", "Failed.__init__", defArgs sFail, .stmts (defBody sFail), defScope sFail, mainGlobals, ["__class__"], builtinsNs)
/-! ### more facts -/
def insB (K : Fg) (C : Str) : Bool := He.eqO (PySem.W.findIn K (.ref (He.ga K C)) "__class__") (some (some (.builtin "object.__class__"))) && (He.eqO (PySem.W.specialIn K (.builtin "object.__class__") "__get__") (some (some (.builtin "getset_descriptor.__get__"))) &&
  (decide (PySem.W.takesIn K (.builtin "object.__class__") = some true) && decide (PySem.W.mroIn K (He.ga K C) (.type "object") = some true)))
def neB (K : Fg) (C : Str) : Bool := He.eqO (PySem.W.findIn K (.ref (He.ga K C)) "__ne__") (some (some (.builtin "object.__ne__")))
/-- what isinstance says: an own class of an own class; a built-in type of an own class; an own class of a built-in type -/
def kitOO (K : Fg) (C D : Str) (b : Bool) : Bool := decide (PySem.W.kitOne K (.ref (He.ga K C)) (.ref (He.ga K D)) = some b)
def kitTO (K : Fg) (D : Str) (l : List String) : Bool := l.all fun t => decide (PySem.W.kitOne K (.type t) (.ref (He.ga K D)) = some false)
def kitOT (K : Fg) (C : Str) (t : String) : Bool := decide (PySem.W.kitOne K (.ref (He.ga K C)) (.type t) = some false)
def failB (K : Fg) : Bool := (match K.lookup (He.ga K "Failed") with
    | some ⟨.type "type", _, .cls cd, sl⟩ => (match cd.mro, sl.toList with
      | .ref C' :: bm, [_, _, _, _, some (.builtin n), _] => decide (C' = He.ga K "Failed") && (decide (n = "ValueError.__new__") && (cd.hasDict && (!cd.hasDel && PySem.HandSPX.refsVE bm)))
      | _, _ => false)
    | _ => false) &&
  (He.eqO (PySem.W.findIn K (.ref (He.ga K "Failed")) "__setattr__") (some (some (.builtin "object.__setattr__"))) && (He.eqO (PySem.W.findIn K (.ref (He.ga K "Failed")) "path") (some none) &&
  (He.eqO (PySem.W.findIn K (.ref (He.ga K "Failed")) "__init__") (some (some (.ref (fI K)))) && (decide (PySem.W.typeIn K (.ref (fI K)) = some (.type "function")) && (PySem.W.keepIn K (.ref (He.ga K "Failed")) &&
  (decide (PySem.W.subIn K (.ref (He.ga K "Failed")) (.type "BaseException") = some true) && (decide (PySem.W.typeIn K (.ref (He.ga K "Failed")) = some (.type "type")) && (decide (PySem.W.subIn K (.ref (He.ga K "Failed")) (.type "ValueError") = some true) &&
  (He.eqO (PySem.W.nsIn K cStatics "thirdparty.any") (some none) && (He.eqO (PySem.W.ks_superIn K (He.ga K "Failed") (He.ga K "Failed") "__init__") (some (some (.builtin "ValueError.__init__"))) && decide (PySem.W.mroIn K (He.ga K "Failed") (.ref (He.ga K "Failed")) = some true)))))))))))
def failF (K : Fg) : Bool := match K.lookup (fI K) with
  | some ⟨_, _, .func fd, _⟩ => (match fd.code, fd.closure, fd.defaults, fd.kwdefaults with
    | .ref cda, [(_, cc)], .none, .none => PySem.W.codeIn K (.ref cda) "Failed.__init__" && ((match K.lookup cda with
        | some ⟨_, _, .fields vs, _⟩ => (match vs[2]? with
          | some (Value.str file _) => decide (((PySem.Challenge.pw_farenough_k98_whole_deeds_with_one_thing.main.file : Str) == file) = true)
          | _ => false)
        | _ => false) && (match K.lookup cc with
        | some ⟨_, _, .cell (some (.ref c)), _⟩ => decide (c = He.ga K "Failed")
        | _ => false))
    | _, _, _, _ => false)
  | _ => false
/-- the first default of Record.__init__ is an empty tuple -/
abbrev dRec (K : Fg) : Addr := He.dflAt ("Record", some "__init__") 0 K
def tup0B (K : Fg) : Bool := match K.lookup (dRec K) with
  | some ⟨.type "tuple", _, .seq its _, _⟩ => decide (its.size = 0)
  | _ => false
theorem tup0_ok {K : Fg} (h : tup0B K = true) (H : Hp) : SqT K H (dRec K) [] := by
  unfold tup0B at h
  cases e : K.lookup (dRec K) with
  | none => rw [e] at h; cases h
  | some o =>
    rw [e] at h
    obtain ⟨c, d, dt, sl⟩ := o
    split at h
    · rename_i d' its n sl' eo
      cases eo
      have z : its.size = 0 := of_decide_eq_true h
      refine .inr ⟨_, its, n, e, rfl, rfl, by rw [z]; exact Nat.zero_le _, ?_⟩
      have e2 : its.toList = [] := by
        apply List.eq_nil_of_length_eq_zero
        simpa using z
      rw [e2]
      exact .nil
    · cases h
/-! ### the Hook -/
abbrev AlK : Type := Bool × List FnC × FnC
def obsK (fa : List He.Fa) (ex : List (Fg → Bool)) (fn : List DD) (K : Fg) : AlK := ((fa.all fun f => f.ok K) && ((ex.all fun f => f K) && fn.all fun d => d.ok K), fn.map fun d => fnC K (d.wh.ad K), fnC K (fI K))
def valK (fn : List DD) : AlK := (true, fn.map DD.val, valI)
def SaysK (fa : List He.Fa) (ex : List (Fg → Bool)) (fn : List DD) (K : Fg) : Prop := obsK fa ex fn K = valK fn
def obsKG (n : List Addr) (fa : List He.Fa) (ex : List (Fg → Bool)) (fn : List DD) (g : Addr → Option Obj) : AlK := obsK fa ex fn (He.frG g n)
def hookK (n : List Addr) (fa : List He.Fa) (ex : List (Fg → Bool)) (fn : List DD) : PySem.W.Hook where
  α := AlK
  obs := fun s => obsKG n fa ex fn s.heap.get?
  val := fun _ => valK fn
  says := fun _ h => ∃ K : PySem.W.Frag, K.In h ∧ SaysK fa ex fn K
  of := fun _ _ e => ⟨_, He.frG_in, e⟩
  keeps := fun _ _ _ ⟨K, hK, c⟩ k => ⟨K, PySem.W.Frag.In.keeps hK k, c⟩
theorem obsKG_eq {n : List Addr} {fa : List He.Fa} {ex : List (Fg → Bool)} {fn : List DD} {g : Addr → Option Obj} {s : Shared} (h : ∀ a, g a = s.heap.get? a) : obsKG n fa ex fn g = (hookK n fa ex fn).obs s := by
  have e : g = s.heap.get? := funext h
  rw [e] <;> rfl
section
variable {fa : List He.Fa} {ex : List (Fg → Bool)} {fn : List DD} {K : Fg}
theorem SaysK.all3 (c : SaysK fa ex fn K) : (fa.all fun f => f.ok K) = true ∧ (ex.all fun f => f K) = true ∧ (fn.all fun d => d.ok K) = true := by
  have h : ((fa.all fun f => f.ok K) && ((ex.all fun f => f K) && fn.all fun d => d.ok K)) = true := congrArg (fun z : AlK => z.1) c
  obtain ⟨h1, h2⟩ := He.ba h
  obtain ⟨h3, h4⟩ := He.ba h2
  exact ⟨h1, h3, h4⟩
theorem SaysK.fact (c : SaysK fa ex fn K) {f : He.Fa} (h : f ∈ fa) : f.ok K = true := List.all_eq_true.mp c.all3.1 f h
theorem SaysK.extra (c : SaysK fa ex fn K) (i : Nat) {f : Fg → Bool} (h : ex[i]? = some f := by rfl) : f K = true := List.all_eq_true.mp c.all3.2.1 f (List.mem_of_getElem? h)
theorem SaysK.def_ (c : SaysK fa ex fn K) (i : Nat) {d : DD} (h : fn[i]? = some d := by rfl) : ∃ fd, FunD K d.name d.qual (defArgs d.st) (defBody d.st) (defScope d.st) (d.dvs K) (d.kws K) (d.wh.ad K) fd := by
  have e : fn.map (fun d => fnC K (d.wh.ad K)) = fn.map DD.val := congrArg (fun z : AlK => z.2.1) c
  have e2 : (fn.map fun d => fnC K (d.wh.ad K))[i]? = (fn.map DD.val)[i]? := by rw [e]
  rw [List.getElem?_map, List.getElem?_map, h] at e2
  exact DD.funD (Option.some.inj e2) (List.all_eq_true.mp c.all3.2.2 d (List.mem_of_getElem? h))
end
end K98
/-! K98Run -/
set_option Elab.async false
set_option linter.all false
set_option maxRecDepth 100000
set_option maxHeartbeats 0
namespace K98
open PySem PySem.Spec PyProof.Rows L2
abbrev s_is_text : Stmt := top 17
def d_is_text : DD := ⟨.g "is_text", "is_text", "is_text", top 17, [], []⟩
abbrev s_is_name : Stmt := top 18
def d_is_name : DD := ⟨.g "is_name", "is_name", "is_name", top 18, [], []⟩
abbrev s_is_key : Stmt := top 19
def d_is_key : DD := ⟨.g "is_key", "is_key", "is_key", top 19, [], []⟩
abbrev s_in_order : Stmt := top 24
def d_in_order : DD := ⟨.g "in_order", "in_order", "in_order", top 24, [], []⟩
abbrev s_check_places : Stmt := top 29
def d_check_places : DD := ⟨.g "check_places", "check_places", "check_places", top 29, [], []⟩
abbrev s_gathered : Stmt := top 31
def d_gathered : DD := ⟨.g "gathered", "gathered", "gathered", top 31, [], []⟩
abbrev s_read_keys : Stmt := top 48
def d_read_keys : DD := ⟨.g "read_keys", "read_keys", "read_keys", top 48, [], []⟩
abbrev s_demanded_keys : Stmt := top 49
def d_demanded_keys : DD := ⟨.g "demanded_keys", "demanded_keys", "demanded_keys", top 49, [], []⟩
abbrev s_open_ahead : Stmt := top 50
def d_open_ahead : DD := ⟨.g "open_ahead", "open_ahead", "open_ahead", top 50, [], []⟩
abbrev s_walk : Stmt := top 55
def d_walk : DD := ⟨.g "walk", "walk", "walk", top 55, [], []⟩
abbrev s_open_places : Stmt := top 56
def d_open_places : DD := ⟨.g "open_places", "open_places", "open_places", top 56, [], []⟩
abbrev s_is_edit : Stmt := top 60
def d_is_edit : DD := ⟨.g "is_edit", "is_edit", "is_edit", top 60, [], []⟩
abbrev s_law_feed_of : Stmt := top 70
def d_law_feed_of : DD := ⟨.g "_law_feed_of", "_law_feed_of", "_law_feed_of", top 70, [], []⟩
abbrev s_law_draw : Stmt := top 71
def d_law_draw : DD := ⟨.g "_law_draw", "_law_draw", "_law_draw", top 71, [], []⟩
abbrev s_law_pick : Stmt := top 72
def d_law_pick : DD := ⟨.g "_law_pick", "_law_pick", "_law_pick", top 72, [], []⟩
abbrev s_law_wrong_items : Stmt := top 73
def d_law_wrong_items : DD := ⟨.g "_law_wrong_items", "_law_wrong_items", "_law_wrong_items", top 73, [], []⟩
abbrev s_law_right_deeds : Stmt := top 74
def d_law_right_deeds : DD := ⟨.g "_law_right_deeds", "_law_right_deeds", "_law_right_deeds", top 74, [], []⟩
abbrev s_law_spoilt : Stmt := top 75
def d_law_spoilt : DD := ⟨.g "_law_spoilt", "_law_spoilt", "_law_spoilt", top 75, [], []⟩
abbrev s_law_nested : Stmt := top 76
def d_law_nested : DD := ⟨.g "_law_nested", "_law_nested", "_law_nested", top 76, [], []⟩
abbrev s_law_told : Stmt := top 77
def d_law_told : DD := ⟨.g "_law_told", "_law_told", "_law_told", top 77, [], []⟩
abbrev s_law : Stmt := top 78
def d_law : DD := ⟨.g "law", "law", "law", top 78, [], []⟩
abbrev s_Record_init : Stmt := inClass (top 32) 0
def d_Record_init : DD := ⟨.m "Record" "__init__", "__init__", "Record.__init__", inClass (top 32) 0, [.adr (He.dflAt ("Record", some "__init__") 0), .non], []⟩
abbrev s_Source_init : Stmt := inClass (top 35) 0
def d_Source_init : DD := ⟨.m "Source" "__init__", "__init__", "Source.__init__", inClass (top 35) 0, [], []⟩
abbrev s_Source_outputs : Stmt := inClass (top 35) 1
def d_Source_outputs : DD := ⟨.p "Source" "outputs", "outputs", "Source.outputs", inClass (top 35) 1, [], []⟩
abbrev s_Source_eq : Stmt := inClass (top 35) 2
def d_Source_eq : DD := ⟨.m "Source" "__eq__", "__eq__", "Source.__eq__", inClass (top 35) 2, [], []⟩
abbrev s_Project_init : Stmt := inClass (top 37) 0
def d_Project_init : DD := ⟨.m "Project" "__init__", "__init__", "Project.__init__", inClass (top 37) 0, [], []⟩
abbrev s_Project_contains : Stmt := inClass (top 37) 1
def d_Project_contains : DD := ⟨.m "Project" "__contains__", "__contains__", "Project.__contains__", inClass (top 37) 1, [], []⟩
abbrev s_Project_getitem : Stmt := inClass (top 37) 3
def d_Project_getitem : DD := ⟨.m "Project" "__getitem__", "__getitem__", "Project.__getitem__", inClass (top 37) 3, [], []⟩
abbrev s_Project_eq : Stmt := inClass (top 37) 5
def d_Project_eq : DD := ⟨.m "Project" "__eq__", "__eq__", "Project.__eq__", inClass (top 37) 5, [], []⟩
abbrev s_Project_names : Stmt := inClass (top 37) 6
def d_Project_names : DD := ⟨.p "Project" "names", "names", "Project.names", inClass (top 37) 6, [], []⟩
abbrev s_Project_put : Stmt := inClass (top 37) 7
def d_Project_put : DD := ⟨.m "Project" "put", "put", "Project.put", inClass (top 37) 7, [], []⟩
abbrev s_Project_without : Stmt := inClass (top 37) 8
def d_Project_without : DD := ⟨.m "Project" "without", "without", "Project.without", inClass (top 37) 8, [], []⟩
abbrev s_Project_source_outputs : Stmt := inClass (top 37) 9
def d_Project_source_outputs : DD := ⟨.m "Project" "source_outputs", "source_outputs", "Project.source_outputs", inClass (top 37) 9, [], []⟩
abbrev s_Project_write : Stmt := inClass (top 37) 10
def d_Project_write : DD := ⟨.m "Project" "write", "write", "Project.write", inClass (top 37) 10, [], []⟩
abbrev s_Project_erase : Stmt := inClass (top 37) 11
def d_Project_erase : DD := ⟨.m "Project" "erase", "erase", "Project.erase", inClass (top 37) 11, [], []⟩
abbrev s_Traces_init : Stmt := inClass (top 45) 0
def d_Traces_init : DD := ⟨.m "Traces" "__init__", "__init__", "Traces.__init__", inClass (top 45) 0, [], []⟩
abbrev s_Traces_is_settled : Stmt := inClass (top 45) 1
def d_Traces_is_settled : DD := ⟨.m "Traces" "is_settled", "is_settled", "Traces.is_settled", inClass (top 45) 1, [], []⟩
abbrev s_Traces_answer : Stmt := inClass (top 45) 2
def d_Traces_answer : DD := ⟨.m "Traces" "answer", "answer", "Traces.answer", inClass (top 45) 2, [], []⟩
abbrev s_Engine_init : Stmt := inClass (top 58) 0
def d_Engine_init : DD := ⟨.m "Engine" "__init__", "__init__", "Engine.__init__", inClass (top 58) 0, [], [("record", .non)]⟩
abbrev s_Engine_ask : Stmt := inClass (top 58) 10
def d_Engine_ask : DD := ⟨.m "Engine" "ask", "ask", "Engine.ask", inClass (top 58) 10, [], []⟩
abbrev s_Engine_pursue : Stmt := inClass (top 58) 12
def d_Engine_pursue : DD := ⟨.m "Engine" "pursue", "pursue", "Engine.pursue", inClass (top 58) 12, [], []⟩
abbrev s_Session_init : Stmt := inClass (top 61) 0
def d_Session_init : DD := ⟨.m "Session" "__init__", "__init__", "Session.__init__", inClass (top 61) 0, [], [("record", .non)]⟩
abbrev s_Session_project : Stmt := inClass (top 61) 1
def d_Session_project : DD := ⟨.p "Session" "project", "project", "Session.project", inClass (top 61) 1, [], []⟩
abbrev s_Session_log : Stmt := inClass (top 61) 3
def d_Session_log : DD := ⟨.m "Session" "log", "log", "Session.log", inClass (top 61) 3, [], []⟩
abbrev s_Session_change : Stmt := inClass (top 61) 4
def d_Session_change : DD := ⟨.m "Session" "change", "change", "Session.change", inClass (top 61) 4, [], []⟩
abbrev s_Session_put : Stmt := inClass (top 61) 5
def d_Session_put : DD := ⟨.m "Session" "put", "put", "Session.put", inClass (top 61) 5, [], []⟩
abbrev s_Session_without : Stmt := inClass (top 61) 6
def d_Session_without : DD := ⟨.m "Session" "without", "without", "Session.without", inClass (top 61) 6, [], []⟩
abbrev s_Session_write : Stmt := inClass (top 61) 7
def d_Session_write : DD := ⟨.m "Session" "write", "write", "Session.write", inClass (top 61) 7, [], []⟩
abbrev s_Session_erase : Stmt := inClass (top 61) 8
def d_Session_erase : DD := ⟨.m "Session" "erase", "erase", "Session.erase", inClass (top 61) 8, [], []⟩
abbrev s_Session_ask : Stmt := inClass (top 61) 9
def d_Session_ask : DD := ⟨.m "Session" "ask", "ask", "Session.ask", inClass (top 61) 9, [], []⟩
abbrev s_Session_undo : Stmt := inClass (top 61) 10
def d_Session_undo : DD := ⟨.m "Session" "undo", "undo", "Session.undo", inClass (top 61) 10, [], []⟩
abbrev s_Session_edit : Stmt := inClass (top 61) 11
def d_Session_edit : DD := ⟨.m "Session" "edit", "edit", "Session.edit", inClass (top 61) 11, [], []⟩
abbrev s_Session_do_deed : Stmt := inClass (top 61) 12
def d_Session_do_deed : DD := ⟨.m "Session" "do_deed", "do_deed", "Session.do_deed", inClass (top 61) 12, [], []⟩
abbrev s_Session_do_deeds : Stmt := inClass (top 61) 13
def d_Session_do_deeds : DD := ⟨.m "Session" "do_deeds", "do_deeds", "Session.do_deeds", inClass (top 61) 13, [], []⟩
abbrev s_Session_attempt : Stmt := inClass (top 61) 14
def d_Session_attempt : DD := ⟨.m "Session" "attempt", "attempt", "Session.attempt", inClass (top 61) 14, [], [("keep", .bl true)]⟩
abbrev s_Workshop_init : Stmt := inClass (top 68) 0
def d_Workshop_init : DD := ⟨.m "Workshop" "__init__", "__init__", "Workshop.__init__", inClass (top 68) 0, [], []⟩
def fn : List DD := [d_is_text, d_is_name, d_is_key, d_in_order, d_check_places, d_gathered, d_read_keys, d_demanded_keys, d_open_ahead, d_walk, d_open_places, d_is_edit, d_law_feed_of, d_law_draw, d_law_pick, d_law_wrong_items, d_law_right_deeds, d_law_spoilt, d_law_nested, d_law_told, d_law, d_Record_init, d_Source_init, d_Source_outputs, d_Source_eq, d_Project_init, d_Project_contains, d_Project_getitem, d_Project_eq, d_Project_names, d_Project_put, d_Project_without, d_Project_source_outputs, d_Project_write, d_Project_erase, d_Traces_init, d_Traces_is_settled, d_Traces_answer, d_Engine_init, d_Engine_ask, d_Engine_pursue, d_Session_init, d_Session_project, d_Session_log, d_Session_change, d_Session_put, d_Session_without, d_Session_write, d_Session_erase, d_Session_ask, d_Session_undo, d_Session_edit, d_Session_do_deed, d_Session_do_deeds, d_Session_attempt, d_Workshop_init]
def fa : List He.Fa := [.glo "is_text", .glo "is_name", .glo "is_key", .glo "in_order", .glo "check_places", .glo "gathered", .glo "read_keys", .glo "demanded_keys", .glo "open_ahead", .glo "walk", .glo "open_places", .glo "is_edit", .glo "_law_feed_of", .glo "_law_draw", .glo "_law_pick", .glo "_law_wrong_items", .glo "_law_right_deeds", .glo "_law_spoilt", .glo "_law_nested", .glo "_law_told", .glo "law", .glo "Record", .glo "Source", .glo "Project", .glo "Traces", .glo "Engine", .glo "Session", .glo "Workshop", .glo "Target", .glo "Made", .glo "Failed", .glo "BuildError", .glo "rank", .free "isinstance", .free "len", .free "all", .free "ord", .free "str", .free "tuple", .free "list", .free "sorted", .free "dict", .free "any", .free "enumerate", .free "range", .free "max", .free "min", .free "super", .int "LONGEST" 400, .int "LONGEST_NAME" 8, .str "LETTERS" "abcdefghijklmnopqrstuvwxyz", .str "SIGNS" "abcdefghijklmnopqrstuvwxyz0123456789", .cls "Record", .mkr "Record", .cls "Source", .mkr "Source", .cls "Project", .mkr "Project", .cls "Traces", .mkr "Traces", .cls "Engine", .mkr "Engine", .cls "Session", .mkr "Session", .cls "Workshop", .mkr "Workshop", .noat "Record" "held", .noat "Source" "given", .noat "Project" "kept", .noat "Traces" "world", .noat "Traces" "made", .noat "Engine" "workshop", .noat "Engine" "seen", .noat "Engine" "taken", .noat "Engine" "runs", .noat "Engine" "again", .noat "Session" "engine", .noat "Session" "current", .noat "Session" "past", .noat "Session" "floor", .noat "Workshop" "kept", .meth "Source" "__eq__", .meth "Project" "__contains__", .meth "Project" "__getitem__", .meth "Project" "__eq__", .meth "Project" "put", .meth "Project" "without", .meth "Project" "source_outputs", .meth "Project" "write", .meth "Project" "erase", .meth "Traces" "is_settled", .meth "Traces" "answer", .meth "Engine" "ask", .meth "Engine" "pursue", .meth "Session" "log", .meth "Session" "change", .meth "Session" "put", .meth "Session" "without", .meth "Session" "write", .meth "Session" "erase", .meth "Session" "ask", .meth "Session" "undo", .meth "Session" "edit", .meth "Session" "do_deed", .meth "Session" "do_deeds", .meth "Session" "attempt"]
def ex : List (Fg → Bool) := [fun K => propB K "Source" "outputs",
  fun K => propB K "Project" "names",
  fun K => propB K "Session" "project",
  fun K => insB K "Source",
  fun K => insB K "Project",
  fun K => neB K "Source",
  fun K => neB K "Project",
  fun K => kitOO K "Source" "Source" true,
  fun K => kitOO K "Project" "Project" true,
  fun K => kitOO K "Source" "Target" true,
  fun K => kitOO K "Source" "Made" false,
  fun K => kitTO K "Target" ["NoneType", "bool", "int", "str", "tuple", "list"],
  fun K => kitOT K "Source" "str",
  fun K => kitOT K "Source" "tuple",
  fun K => kitOT K "Source" "list",
  fun K => PySem.W.fnIn K (He.ma K (He.ga K "Project") "__getitem__"),
  fun K => decide (PySem.W.exmOne K (.ref (He.ga K "Failed")) (.ref (He.ga K "Failed")) = some true),
  fun K => xfB K (He.ga K "Failed"),
  failB,
  failF,
  tup0B]
def as0 : List Addr := [3, 2, 443, 442, 507, 506, 653, 652, 739, 738, 903, 902, 1031, 1030, 1188, 1187, 464, 463, 558, 557, 221, 220, 31, 30, 490, 617, 937, 228, 227, 233]
def as1 : List Addr := [232, 240, 239, 271, 270, 299, 298, 311, 310, 757, 756, 764, 763, 771, 770, 795, 794, 802, 801, 914, 913, 1199, 1198, 1206, 1205, 1213, 1212, 1220, 1219, 1227]
def as2 : List Addr := [1226, 1234, 1233, 1239, 1238, 1246, 1245, 1251, 1250, 266, 265, 327, 326, 320, 482, 481, 489, 488, 497, 496, 574, 573, 581, 580, 595, 594, 609, 608, 616, 615]
def as3 : List Addr := [624, 623, 629, 628, 636, 635, 643, 642, 650, 649, 722, 721, 729, 728, 736, 735, 817, 816, 810, 886, 885, 900, 899, 929, 928, 922, 936, 935, 950, 949]
def as4 : List Addr := [957, 956, 964, 963, 971, 970, 978, 977, 985, 984, 992, 991, 999, 998, 1006, 1005, 1013, 1012, 1020, 1019, 1028, 1027, 1021, 1141, 1140, 218, 217, 206, 319]
def asK : List Addr := as0 ++ (as1 ++ (as2 ++ (as3 ++ (as4))))
def loose0 : List PySem.Str := [("_wall" : PySem.Str), ("BuildError" : PySem.Str), ("Halted" : PySem.Str), ("NoTarget" : PySem.Str), ("NotSource" : PySem.Str), ("Stuck" : PySem.Str), ("Clash" : PySem.Str), ("Gap" : PySem.Str), ("Rewritten" : PySem.Str), ("NoPlace" : PySem.Str), ("Failed" : PySem.Str), ("LONGEST" : PySem.Str), ("LETTERS" : PySem.Str), ("SIGNS" : PySem.Str), ("LONGEST_NAME" : PySem.Str), ("is_text" : PySem.Str)]
def loose1 : List PySem.Str := [("is_name" : PySem.Str), ("is_key" : PySem.Str), ("after_write" : PySem.Str), ("after_read" : PySem.Str), ("is_behind" : PySem.Str), ("rank" : PySem.Str), ("in_order" : PySem.Str), ("stretch_end" : PySem.Str), ("leading_place" : PySem.Str), ("leads_to" : PySem.Str), ("check_places" : PySem.Str), ("joined" : PySem.Str), ("gathered" : PySem.Str), ("Record" : PySem.Str), ("Target" : PySem.Str), ("Source" : PySem.Str)]
def loose2 : List PySem.Str := [("Made" : PySem.Str), ("Project" : PySem.Str), ("NEW" : PySem.Str), ("GONE" : PySem.Str), ("OPEN" : PySem.Str), ("WAITING" : PySem.Str), ("STOPPED" : PySem.Str), ("Trace" : PySem.Str), ("Traces" : PySem.Str), ("used_trail" : PySem.Str), ("read_keys" : PySem.Str), ("demanded_keys" : PySem.Str), ("open_ahead" : PySem.Str), ("hopeful_names" : PySem.Str), ("ring_from" : PySem.Str), ("is_stuck" : PySem.Str)]
def loose3 : List PySem.Str := [("walk" : PySem.Str), ("open_places" : PySem.Str), ("Engine" : PySem.Str), ("is_edit" : PySem.Str), ("Session" : PySem.Str), ("STOP" : PySem.Str), ("Recipe" : PySem.Str), ("Run" : PySem.Str), ("Workshop" : PySem.Str), ("_law_feed_of" : PySem.Str), ("_law_draw" : PySem.Str), ("_law_pick" : PySem.Str), ("_law_wrong_items" : PySem.Str), ("_law_right_deeds" : PySem.Str), ("_law_spoilt" : PySem.Str), ("_law_nested" : PySem.Str)]
def loose4 : List PySem.Str := [("_law_told" : PySem.Str)]
def looseA : List PySem.Str := loose0 ++ (loose1 ++ (loose2 ++ (loose3 ++ (loose4))))
abbrev R : PySem.W.OpenRow := PySem.W.OpenLaw.row PySem.Challenge.rw_farenough_k98_whole_deeds_with_one_thing
abbrev hk : PySem.W.Hook := hookK asK fa ex fn
def ob (s : PySem.W.SharedT) : AlK := obsKG asK fa ex fn (HandSHeadRun.getT s)
theorem ob_eq (s : PySem.W.SharedT) : ob s = hk.obs s.abs := obsKG_eq (HandSHeadRun.getT_eq s)
theorem run (w : World) : HandSHeadRun.RunEq R (PySem.W.view R.prog [78]) hk ob 10100 looseA w := by
  intro os
  kernel_rfl
end K98
/-! K98Facts -/
set_option Elab.async false
set_option linter.all false
set_option maxRecDepth 100000
set_option maxHeartbeats 4000000
/-! what the top has written, each by its name -/
namespace K98
open PySem PySem.Spec PyProof.Rows L2
def TX (K : Fg) (mg : Str → Option Value) : Prop := ∃ h : Heap, K.In h ∧ h.Ns mainGlobals mg ∧ SaysK fa ex fn K
section
variable {K : Fg} {mg : Str → Option Value}
theorem TX.g_is_text (T : TX K mg) : mg "is_text" = some (.ref (He.ga K "is_text")) := let ⟨_, X, G, c⟩ := T; He.glo_ok X G (c.fact (f := .glo "is_text") (List.mem_of_getElem? (i := 0) rfl))
theorem TX.g_is_name (T : TX K mg) : mg "is_name" = some (.ref (He.ga K "is_name")) := let ⟨_, X, G, c⟩ := T; He.glo_ok X G (c.fact (f := .glo "is_name") (List.mem_of_getElem? (i := 1) rfl))
theorem TX.g_is_key (T : TX K mg) : mg "is_key" = some (.ref (He.ga K "is_key")) := let ⟨_, X, G, c⟩ := T; He.glo_ok X G (c.fact (f := .glo "is_key") (List.mem_of_getElem? (i := 2) rfl))
theorem TX.g_in_order (T : TX K mg) : mg "in_order" = some (.ref (He.ga K "in_order")) := let ⟨_, X, G, c⟩ := T; He.glo_ok X G (c.fact (f := .glo "in_order") (List.mem_of_getElem? (i := 3) rfl))
theorem TX.g_check_places (T : TX K mg) : mg "check_places" = some (.ref (He.ga K "check_places")) := let ⟨_, X, G, c⟩ := T; He.glo_ok X G (c.fact (f := .glo "check_places") (List.mem_of_getElem? (i := 4) rfl))
theorem TX.g_gathered (T : TX K mg) : mg "gathered" = some (.ref (He.ga K "gathered")) := let ⟨_, X, G, c⟩ := T; He.glo_ok X G (c.fact (f := .glo "gathered") (List.mem_of_getElem? (i := 5) rfl))
theorem TX.g_read_keys (T : TX K mg) : mg "read_keys" = some (.ref (He.ga K "read_keys")) := let ⟨_, X, G, c⟩ := T; He.glo_ok X G (c.fact (f := .glo "read_keys") (List.mem_of_getElem? (i := 6) rfl))
theorem TX.g_demanded_keys (T : TX K mg) : mg "demanded_keys" = some (.ref (He.ga K "demanded_keys")) := let ⟨_, X, G, c⟩ := T; He.glo_ok X G (c.fact (f := .glo "demanded_keys") (List.mem_of_getElem? (i := 7) rfl))
theorem TX.g_open_ahead (T : TX K mg) : mg "open_ahead" = some (.ref (He.ga K "open_ahead")) := let ⟨_, X, G, c⟩ := T; He.glo_ok X G (c.fact (f := .glo "open_ahead") (List.mem_of_getElem? (i := 8) rfl))
theorem TX.g_walk (T : TX K mg) : mg "walk" = some (.ref (He.ga K "walk")) := let ⟨_, X, G, c⟩ := T; He.glo_ok X G (c.fact (f := .glo "walk") (List.mem_of_getElem? (i := 9) rfl))
theorem TX.g_open_places (T : TX K mg) : mg "open_places" = some (.ref (He.ga K "open_places")) := let ⟨_, X, G, c⟩ := T; He.glo_ok X G (c.fact (f := .glo "open_places") (List.mem_of_getElem? (i := 10) rfl))
theorem TX.g_is_edit (T : TX K mg) : mg "is_edit" = some (.ref (He.ga K "is_edit")) := let ⟨_, X, G, c⟩ := T; He.glo_ok X G (c.fact (f := .glo "is_edit") (List.mem_of_getElem? (i := 11) rfl))
theorem TX.g_law_feed_of (T : TX K mg) : mg "_law_feed_of" = some (.ref (He.ga K "_law_feed_of")) := let ⟨_, X, G, c⟩ := T; He.glo_ok X G (c.fact (f := .glo "_law_feed_of") (List.mem_of_getElem? (i := 12) rfl))
theorem TX.g_law_draw (T : TX K mg) : mg "_law_draw" = some (.ref (He.ga K "_law_draw")) := let ⟨_, X, G, c⟩ := T; He.glo_ok X G (c.fact (f := .glo "_law_draw") (List.mem_of_getElem? (i := 13) rfl))
theorem TX.g_law_pick (T : TX K mg) : mg "_law_pick" = some (.ref (He.ga K "_law_pick")) := let ⟨_, X, G, c⟩ := T; He.glo_ok X G (c.fact (f := .glo "_law_pick") (List.mem_of_getElem? (i := 14) rfl))
theorem TX.g_law_wrong_items (T : TX K mg) : mg "_law_wrong_items" = some (.ref (He.ga K "_law_wrong_items")) := let ⟨_, X, G, c⟩ := T; He.glo_ok X G (c.fact (f := .glo "_law_wrong_items") (List.mem_of_getElem? (i := 15) rfl))
theorem TX.g_law_right_deeds (T : TX K mg) : mg "_law_right_deeds" = some (.ref (He.ga K "_law_right_deeds")) := let ⟨_, X, G, c⟩ := T; He.glo_ok X G (c.fact (f := .glo "_law_right_deeds") (List.mem_of_getElem? (i := 16) rfl))
theorem TX.g_law_spoilt (T : TX K mg) : mg "_law_spoilt" = some (.ref (He.ga K "_law_spoilt")) := let ⟨_, X, G, c⟩ := T; He.glo_ok X G (c.fact (f := .glo "_law_spoilt") (List.mem_of_getElem? (i := 17) rfl))
theorem TX.g_law_nested (T : TX K mg) : mg "_law_nested" = some (.ref (He.ga K "_law_nested")) := let ⟨_, X, G, c⟩ := T; He.glo_ok X G (c.fact (f := .glo "_law_nested") (List.mem_of_getElem? (i := 18) rfl))
theorem TX.g_law_told (T : TX K mg) : mg "_law_told" = some (.ref (He.ga K "_law_told")) := let ⟨_, X, G, c⟩ := T; He.glo_ok X G (c.fact (f := .glo "_law_told") (List.mem_of_getElem? (i := 19) rfl))
theorem TX.g_law (T : TX K mg) : mg "law" = some (.ref (He.ga K "law")) := let ⟨_, X, G, c⟩ := T; He.glo_ok X G (c.fact (f := .glo "law") (List.mem_of_getElem? (i := 20) rfl))
theorem TX.g_Record (T : TX K mg) : mg "Record" = some (.ref (He.ga K "Record")) := let ⟨_, X, G, c⟩ := T; He.glo_ok X G (c.fact (f := .glo "Record") (List.mem_of_getElem? (i := 21) rfl))
theorem TX.g_Source (T : TX K mg) : mg "Source" = some (.ref (He.ga K "Source")) := let ⟨_, X, G, c⟩ := T; He.glo_ok X G (c.fact (f := .glo "Source") (List.mem_of_getElem? (i := 22) rfl))
theorem TX.g_Project (T : TX K mg) : mg "Project" = some (.ref (He.ga K "Project")) := let ⟨_, X, G, c⟩ := T; He.glo_ok X G (c.fact (f := .glo "Project") (List.mem_of_getElem? (i := 23) rfl))
theorem TX.g_Traces (T : TX K mg) : mg "Traces" = some (.ref (He.ga K "Traces")) := let ⟨_, X, G, c⟩ := T; He.glo_ok X G (c.fact (f := .glo "Traces") (List.mem_of_getElem? (i := 24) rfl))
theorem TX.g_Engine (T : TX K mg) : mg "Engine" = some (.ref (He.ga K "Engine")) := let ⟨_, X, G, c⟩ := T; He.glo_ok X G (c.fact (f := .glo "Engine") (List.mem_of_getElem? (i := 25) rfl))
theorem TX.g_Session (T : TX K mg) : mg "Session" = some (.ref (He.ga K "Session")) := let ⟨_, X, G, c⟩ := T; He.glo_ok X G (c.fact (f := .glo "Session") (List.mem_of_getElem? (i := 26) rfl))
theorem TX.g_Workshop (T : TX K mg) : mg "Workshop" = some (.ref (He.ga K "Workshop")) := let ⟨_, X, G, c⟩ := T; He.glo_ok X G (c.fact (f := .glo "Workshop") (List.mem_of_getElem? (i := 27) rfl))
theorem TX.g_Target (T : TX K mg) : mg "Target" = some (.ref (He.ga K "Target")) := let ⟨_, X, G, c⟩ := T; He.glo_ok X G (c.fact (f := .glo "Target") (List.mem_of_getElem? (i := 28) rfl))
theorem TX.g_Made (T : TX K mg) : mg "Made" = some (.ref (He.ga K "Made")) := let ⟨_, X, G, c⟩ := T; He.glo_ok X G (c.fact (f := .glo "Made") (List.mem_of_getElem? (i := 29) rfl))
theorem TX.g_Failed (T : TX K mg) : mg "Failed" = some (.ref (He.ga K "Failed")) := let ⟨_, X, G, c⟩ := T; He.glo_ok X G (c.fact (f := .glo "Failed") (List.mem_of_getElem? (i := 30) rfl))
theorem TX.g_BuildError (T : TX K mg) : mg "BuildError" = some (.ref (He.ga K "BuildError")) := let ⟨_, X, G, c⟩ := T; He.glo_ok X G (c.fact (f := .glo "BuildError") (List.mem_of_getElem? (i := 31) rfl))
theorem TX.g_rank (T : TX K mg) : mg "rank" = some (.ref (He.ga K "rank")) := let ⟨_, X, G, c⟩ := T; He.glo_ok X G (c.fact (f := .glo "rank") (List.mem_of_getElem? (i := 32) rfl))
theorem TX.n_isinstance (T : TX K mg) : mg "isinstance" = none := let ⟨_, X, G, c⟩ := T; He.free_ok X G (c.fact (f := .free "isinstance") (List.mem_of_getElem? (i := 33) rfl))
theorem TX.n_len (T : TX K mg) : mg "len" = none := let ⟨_, X, G, c⟩ := T; He.free_ok X G (c.fact (f := .free "len") (List.mem_of_getElem? (i := 34) rfl))
theorem TX.n_all (T : TX K mg) : mg "all" = none := let ⟨_, X, G, c⟩ := T; He.free_ok X G (c.fact (f := .free "all") (List.mem_of_getElem? (i := 35) rfl))
theorem TX.n_ord (T : TX K mg) : mg "ord" = none := let ⟨_, X, G, c⟩ := T; He.free_ok X G (c.fact (f := .free "ord") (List.mem_of_getElem? (i := 36) rfl))
theorem TX.n_str (T : TX K mg) : mg "str" = none := let ⟨_, X, G, c⟩ := T; He.free_ok X G (c.fact (f := .free "str") (List.mem_of_getElem? (i := 37) rfl))
theorem TX.n_tuple (T : TX K mg) : mg "tuple" = none := let ⟨_, X, G, c⟩ := T; He.free_ok X G (c.fact (f := .free "tuple") (List.mem_of_getElem? (i := 38) rfl))
theorem TX.n_list (T : TX K mg) : mg "list" = none := let ⟨_, X, G, c⟩ := T; He.free_ok X G (c.fact (f := .free "list") (List.mem_of_getElem? (i := 39) rfl))
theorem TX.n_sorted (T : TX K mg) : mg "sorted" = none := let ⟨_, X, G, c⟩ := T; He.free_ok X G (c.fact (f := .free "sorted") (List.mem_of_getElem? (i := 40) rfl))
theorem TX.n_dict (T : TX K mg) : mg "dict" = none := let ⟨_, X, G, c⟩ := T; He.free_ok X G (c.fact (f := .free "dict") (List.mem_of_getElem? (i := 41) rfl))
theorem TX.n_any (T : TX K mg) : mg "any" = none := let ⟨_, X, G, c⟩ := T; He.free_ok X G (c.fact (f := .free "any") (List.mem_of_getElem? (i := 42) rfl))
theorem TX.n_enumerate (T : TX K mg) : mg "enumerate" = none := let ⟨_, X, G, c⟩ := T; He.free_ok X G (c.fact (f := .free "enumerate") (List.mem_of_getElem? (i := 43) rfl))
theorem TX.n_range (T : TX K mg) : mg "range" = none := let ⟨_, X, G, c⟩ := T; He.free_ok X G (c.fact (f := .free "range") (List.mem_of_getElem? (i := 44) rfl))
theorem TX.n_max (T : TX K mg) : mg "max" = none := let ⟨_, X, G, c⟩ := T; He.free_ok X G (c.fact (f := .free "max") (List.mem_of_getElem? (i := 45) rfl))
theorem TX.n_min (T : TX K mg) : mg "min" = none := let ⟨_, X, G, c⟩ := T; He.free_ok X G (c.fact (f := .free "min") (List.mem_of_getElem? (i := 46) rfl))
theorem TX.n_super (T : TX K mg) : mg "super" = none := let ⟨_, X, G, c⟩ := T; He.free_ok X G (c.fact (f := .free "super") (List.mem_of_getElem? (i := 47) rfl))
theorem TX.int_LONGEST (T : TX K mg) : ∃ t, mg "LONGEST" = some (.int 400 t) := let ⟨_, X, G, c⟩ := T; He.int_ok X G (c.fact (f := .int "LONGEST" 400) (List.mem_of_getElem? (i := 48) rfl))
theorem TX.int_LONGEST_NAME (T : TX K mg) : ∃ t, mg "LONGEST_NAME" = some (.int 8 t) := let ⟨_, X, G, c⟩ := T; He.int_ok X G (c.fact (f := .int "LONGEST_NAME" 8) (List.mem_of_getElem? (i := 49) rfl))
theorem TX.str_LETTERS (T : TX K mg) : ∃ t, mg "LETTERS" = some (.str "abcdefghijklmnopqrstuvwxyz" t) := let ⟨_, X, G, c⟩ := T; He.str_ok X G (c.fact (f := .str "LETTERS" "abcdefghijklmnopqrstuvwxyz") (List.mem_of_getElem? (i := 50) rfl))
theorem TX.str_SIGNS (T : TX K mg) : ∃ t, mg "SIGNS" = some (.str "abcdefghijklmnopqrstuvwxyz0123456789" t) := let ⟨_, X, G, c⟩ := T; He.str_ok X G (c.fact (f := .str "SIGNS" "abcdefghijklmnopqrstuvwxyz0123456789") (List.mem_of_getElem? (i := 51) rfl))
theorem TX.c_Record (T : TX K mg) : Cls K (He.ga K "Record") := let ⟨_, X, G, c⟩ := T; He.cls_ok (c.fact (f := .cls "Record") (List.mem_of_getElem? (i := 52) rfl))
theorem TX.mk_Record (T : TX K mg) : Mk K (He.ga K "Record") (He.ma K (He.ga K "Record") "__init__") := let ⟨_, X, G, c⟩ := T; He.mkr_ok (c.fact (f := .mkr "Record") (List.mem_of_getElem? (i := 53) rfl))
theorem TX.c_Source (T : TX K mg) : Cls K (He.ga K "Source") := let ⟨_, X, G, c⟩ := T; He.cls_ok (c.fact (f := .cls "Source") (List.mem_of_getElem? (i := 54) rfl))
theorem TX.mk_Source (T : TX K mg) : Mk K (He.ga K "Source") (He.ma K (He.ga K "Source") "__init__") := let ⟨_, X, G, c⟩ := T; He.mkr_ok (c.fact (f := .mkr "Source") (List.mem_of_getElem? (i := 55) rfl))
theorem TX.c_Project (T : TX K mg) : Cls K (He.ga K "Project") := let ⟨_, X, G, c⟩ := T; He.cls_ok (c.fact (f := .cls "Project") (List.mem_of_getElem? (i := 56) rfl))
theorem TX.mk_Project (T : TX K mg) : Mk K (He.ga K "Project") (He.ma K (He.ga K "Project") "__init__") := let ⟨_, X, G, c⟩ := T; He.mkr_ok (c.fact (f := .mkr "Project") (List.mem_of_getElem? (i := 57) rfl))
theorem TX.c_Traces (T : TX K mg) : Cls K (He.ga K "Traces") := let ⟨_, X, G, c⟩ := T; He.cls_ok (c.fact (f := .cls "Traces") (List.mem_of_getElem? (i := 58) rfl))
theorem TX.mk_Traces (T : TX K mg) : Mk K (He.ga K "Traces") (He.ma K (He.ga K "Traces") "__init__") := let ⟨_, X, G, c⟩ := T; He.mkr_ok (c.fact (f := .mkr "Traces") (List.mem_of_getElem? (i := 59) rfl))
theorem TX.c_Engine (T : TX K mg) : Cls K (He.ga K "Engine") := let ⟨_, X, G, c⟩ := T; He.cls_ok (c.fact (f := .cls "Engine") (List.mem_of_getElem? (i := 60) rfl))
theorem TX.mk_Engine (T : TX K mg) : Mk K (He.ga K "Engine") (He.ma K (He.ga K "Engine") "__init__") := let ⟨_, X, G, c⟩ := T; He.mkr_ok (c.fact (f := .mkr "Engine") (List.mem_of_getElem? (i := 61) rfl))
theorem TX.c_Session (T : TX K mg) : Cls K (He.ga K "Session") := let ⟨_, X, G, c⟩ := T; He.cls_ok (c.fact (f := .cls "Session") (List.mem_of_getElem? (i := 62) rfl))
theorem TX.mk_Session (T : TX K mg) : Mk K (He.ga K "Session") (He.ma K (He.ga K "Session") "__init__") := let ⟨_, X, G, c⟩ := T; He.mkr_ok (c.fact (f := .mkr "Session") (List.mem_of_getElem? (i := 63) rfl))
theorem TX.c_Workshop (T : TX K mg) : Cls K (He.ga K "Workshop") := let ⟨_, X, G, c⟩ := T; He.cls_ok (c.fact (f := .cls "Workshop") (List.mem_of_getElem? (i := 64) rfl))
theorem TX.mk_Workshop (T : TX K mg) : Mk K (He.ga K "Workshop") (He.ma K (He.ga K "Workshop") "__init__") := let ⟨_, X, G, c⟩ := T; He.mkr_ok (c.fact (f := .mkr "Workshop") (List.mem_of_getElem? (i := 65) rfl))
theorem TX.at_Record_held (T : TX K mg) : NoAttr K (He.ga K "Record") "held" := let ⟨_, X, G, c⟩ := T; He.noat_ok (c.fact (f := .noat "Record" "held") (List.mem_of_getElem? (i := 66) rfl))
theorem TX.at_Source_given (T : TX K mg) : NoAttr K (He.ga K "Source") "given" := let ⟨_, X, G, c⟩ := T; He.noat_ok (c.fact (f := .noat "Source" "given") (List.mem_of_getElem? (i := 67) rfl))
theorem TX.at_Project_kept (T : TX K mg) : NoAttr K (He.ga K "Project") "kept" := let ⟨_, X, G, c⟩ := T; He.noat_ok (c.fact (f := .noat "Project" "kept") (List.mem_of_getElem? (i := 68) rfl))
theorem TX.at_Traces_world (T : TX K mg) : NoAttr K (He.ga K "Traces") "world" := let ⟨_, X, G, c⟩ := T; He.noat_ok (c.fact (f := .noat "Traces" "world") (List.mem_of_getElem? (i := 69) rfl))
theorem TX.at_Traces_made (T : TX K mg) : NoAttr K (He.ga K "Traces") "made" := let ⟨_, X, G, c⟩ := T; He.noat_ok (c.fact (f := .noat "Traces" "made") (List.mem_of_getElem? (i := 70) rfl))
theorem TX.at_Engine_workshop (T : TX K mg) : NoAttr K (He.ga K "Engine") "workshop" := let ⟨_, X, G, c⟩ := T; He.noat_ok (c.fact (f := .noat "Engine" "workshop") (List.mem_of_getElem? (i := 71) rfl))
theorem TX.at_Engine_seen (T : TX K mg) : NoAttr K (He.ga K "Engine") "seen" := let ⟨_, X, G, c⟩ := T; He.noat_ok (c.fact (f := .noat "Engine" "seen") (List.mem_of_getElem? (i := 72) rfl))
theorem TX.at_Engine_taken (T : TX K mg) : NoAttr K (He.ga K "Engine") "taken" := let ⟨_, X, G, c⟩ := T; He.noat_ok (c.fact (f := .noat "Engine" "taken") (List.mem_of_getElem? (i := 73) rfl))
theorem TX.at_Engine_runs (T : TX K mg) : NoAttr K (He.ga K "Engine") "runs" := let ⟨_, X, G, c⟩ := T; He.noat_ok (c.fact (f := .noat "Engine" "runs") (List.mem_of_getElem? (i := 74) rfl))
theorem TX.at_Engine_again (T : TX K mg) : NoAttr K (He.ga K "Engine") "again" := let ⟨_, X, G, c⟩ := T; He.noat_ok (c.fact (f := .noat "Engine" "again") (List.mem_of_getElem? (i := 75) rfl))
theorem TX.at_Session_engine (T : TX K mg) : NoAttr K (He.ga K "Session") "engine" := let ⟨_, X, G, c⟩ := T; He.noat_ok (c.fact (f := .noat "Session" "engine") (List.mem_of_getElem? (i := 76) rfl))
theorem TX.at_Session_current (T : TX K mg) : NoAttr K (He.ga K "Session") "current" := let ⟨_, X, G, c⟩ := T; He.noat_ok (c.fact (f := .noat "Session" "current") (List.mem_of_getElem? (i := 77) rfl))
theorem TX.at_Session_past (T : TX K mg) : NoAttr K (He.ga K "Session") "past" := let ⟨_, X, G, c⟩ := T; He.noat_ok (c.fact (f := .noat "Session" "past") (List.mem_of_getElem? (i := 78) rfl))
theorem TX.at_Session_floor (T : TX K mg) : NoAttr K (He.ga K "Session") "floor" := let ⟨_, X, G, c⟩ := T; He.noat_ok (c.fact (f := .noat "Session" "floor") (List.mem_of_getElem? (i := 79) rfl))
theorem TX.at_Workshop_kept (T : TX K mg) : NoAttr K (He.ga K "Workshop") "kept" := let ⟨_, X, G, c⟩ := T; He.noat_ok (c.fact (f := .noat "Workshop" "kept") (List.mem_of_getElem? (i := 80) rfl))
theorem TX.m_Source_eq (T : TX K mg) : Meth K (He.ga K "Source") "__eq__" (He.ma K (He.ga K "Source") "__eq__") := let ⟨_, X, G, c⟩ := T; He.meth_ok (c.fact (f := .meth "Source" "__eq__") (List.mem_of_getElem? (i := 81) rfl))
theorem TX.m_Project_contains (T : TX K mg) : Meth K (He.ga K "Project") "__contains__" (He.ma K (He.ga K "Project") "__contains__") := let ⟨_, X, G, c⟩ := T; He.meth_ok (c.fact (f := .meth "Project" "__contains__") (List.mem_of_getElem? (i := 82) rfl))
theorem TX.m_Project_getitem (T : TX K mg) : Meth K (He.ga K "Project") "__getitem__" (He.ma K (He.ga K "Project") "__getitem__") := let ⟨_, X, G, c⟩ := T; He.meth_ok (c.fact (f := .meth "Project" "__getitem__") (List.mem_of_getElem? (i := 83) rfl))
theorem TX.m_Project_eq (T : TX K mg) : Meth K (He.ga K "Project") "__eq__" (He.ma K (He.ga K "Project") "__eq__") := let ⟨_, X, G, c⟩ := T; He.meth_ok (c.fact (f := .meth "Project" "__eq__") (List.mem_of_getElem? (i := 84) rfl))
theorem TX.m_Project_put (T : TX K mg) : Meth K (He.ga K "Project") "put" (He.ma K (He.ga K "Project") "put") := let ⟨_, X, G, c⟩ := T; He.meth_ok (c.fact (f := .meth "Project" "put") (List.mem_of_getElem? (i := 85) rfl))
theorem TX.m_Project_without (T : TX K mg) : Meth K (He.ga K "Project") "without" (He.ma K (He.ga K "Project") "without") := let ⟨_, X, G, c⟩ := T; He.meth_ok (c.fact (f := .meth "Project" "without") (List.mem_of_getElem? (i := 86) rfl))
theorem TX.m_Project_source_outputs (T : TX K mg) : Meth K (He.ga K "Project") "source_outputs" (He.ma K (He.ga K "Project") "source_outputs") := let ⟨_, X, G, c⟩ := T; He.meth_ok (c.fact (f := .meth "Project" "source_outputs") (List.mem_of_getElem? (i := 87) rfl))
theorem TX.m_Project_write (T : TX K mg) : Meth K (He.ga K "Project") "write" (He.ma K (He.ga K "Project") "write") := let ⟨_, X, G, c⟩ := T; He.meth_ok (c.fact (f := .meth "Project" "write") (List.mem_of_getElem? (i := 88) rfl))
theorem TX.m_Project_erase (T : TX K mg) : Meth K (He.ga K "Project") "erase" (He.ma K (He.ga K "Project") "erase") := let ⟨_, X, G, c⟩ := T; He.meth_ok (c.fact (f := .meth "Project" "erase") (List.mem_of_getElem? (i := 89) rfl))
theorem TX.m_Traces_is_settled (T : TX K mg) : Meth K (He.ga K "Traces") "is_settled" (He.ma K (He.ga K "Traces") "is_settled") := let ⟨_, X, G, c⟩ := T; He.meth_ok (c.fact (f := .meth "Traces" "is_settled") (List.mem_of_getElem? (i := 90) rfl))
theorem TX.m_Traces_answer (T : TX K mg) : Meth K (He.ga K "Traces") "answer" (He.ma K (He.ga K "Traces") "answer") := let ⟨_, X, G, c⟩ := T; He.meth_ok (c.fact (f := .meth "Traces" "answer") (List.mem_of_getElem? (i := 91) rfl))
theorem TX.m_Engine_ask (T : TX K mg) : Meth K (He.ga K "Engine") "ask" (He.ma K (He.ga K "Engine") "ask") := let ⟨_, X, G, c⟩ := T; He.meth_ok (c.fact (f := .meth "Engine" "ask") (List.mem_of_getElem? (i := 92) rfl))
theorem TX.m_Engine_pursue (T : TX K mg) : Meth K (He.ga K "Engine") "pursue" (He.ma K (He.ga K "Engine") "pursue") := let ⟨_, X, G, c⟩ := T; He.meth_ok (c.fact (f := .meth "Engine" "pursue") (List.mem_of_getElem? (i := 93) rfl))
theorem TX.m_Session_log (T : TX K mg) : Meth K (He.ga K "Session") "log" (He.ma K (He.ga K "Session") "log") := let ⟨_, X, G, c⟩ := T; He.meth_ok (c.fact (f := .meth "Session" "log") (List.mem_of_getElem? (i := 94) rfl))
theorem TX.m_Session_change (T : TX K mg) : Meth K (He.ga K "Session") "change" (He.ma K (He.ga K "Session") "change") := let ⟨_, X, G, c⟩ := T; He.meth_ok (c.fact (f := .meth "Session" "change") (List.mem_of_getElem? (i := 95) rfl))
theorem TX.m_Session_put (T : TX K mg) : Meth K (He.ga K "Session") "put" (He.ma K (He.ga K "Session") "put") := let ⟨_, X, G, c⟩ := T; He.meth_ok (c.fact (f := .meth "Session" "put") (List.mem_of_getElem? (i := 96) rfl))
theorem TX.m_Session_without (T : TX K mg) : Meth K (He.ga K "Session") "without" (He.ma K (He.ga K "Session") "without") := let ⟨_, X, G, c⟩ := T; He.meth_ok (c.fact (f := .meth "Session" "without") (List.mem_of_getElem? (i := 97) rfl))
theorem TX.m_Session_write (T : TX K mg) : Meth K (He.ga K "Session") "write" (He.ma K (He.ga K "Session") "write") := let ⟨_, X, G, c⟩ := T; He.meth_ok (c.fact (f := .meth "Session" "write") (List.mem_of_getElem? (i := 98) rfl))
theorem TX.m_Session_erase (T : TX K mg) : Meth K (He.ga K "Session") "erase" (He.ma K (He.ga K "Session") "erase") := let ⟨_, X, G, c⟩ := T; He.meth_ok (c.fact (f := .meth "Session" "erase") (List.mem_of_getElem? (i := 99) rfl))
theorem TX.m_Session_ask (T : TX K mg) : Meth K (He.ga K "Session") "ask" (He.ma K (He.ga K "Session") "ask") := let ⟨_, X, G, c⟩ := T; He.meth_ok (c.fact (f := .meth "Session" "ask") (List.mem_of_getElem? (i := 100) rfl))
theorem TX.m_Session_undo (T : TX K mg) : Meth K (He.ga K "Session") "undo" (He.ma K (He.ga K "Session") "undo") := let ⟨_, X, G, c⟩ := T; He.meth_ok (c.fact (f := .meth "Session" "undo") (List.mem_of_getElem? (i := 101) rfl))
theorem TX.m_Session_edit (T : TX K mg) : Meth K (He.ga K "Session") "edit" (He.ma K (He.ga K "Session") "edit") := let ⟨_, X, G, c⟩ := T; He.meth_ok (c.fact (f := .meth "Session" "edit") (List.mem_of_getElem? (i := 102) rfl))
theorem TX.m_Session_do_deed (T : TX K mg) : Meth K (He.ga K "Session") "do_deed" (He.ma K (He.ga K "Session") "do_deed") := let ⟨_, X, G, c⟩ := T; He.meth_ok (c.fact (f := .meth "Session" "do_deed") (List.mem_of_getElem? (i := 103) rfl))
theorem TX.m_Session_do_deeds (T : TX K mg) : Meth K (He.ga K "Session") "do_deeds" (He.ma K (He.ga K "Session") "do_deeds") := let ⟨_, X, G, c⟩ := T; He.meth_ok (c.fact (f := .meth "Session" "do_deeds") (List.mem_of_getElem? (i := 104) rfl))
theorem TX.m_Session_attempt (T : TX K mg) : Meth K (He.ga K "Session") "attempt" (He.ma K (He.ga K "Session") "attempt") := let ⟨_, X, G, c⟩ := T; He.meth_ok (c.fact (f := .meth "Session" "attempt") (List.mem_of_getElem? (i := 105) rfl))
abbrev N_is_text : List Str := ["value", "sign"]
abbrev P_is_text : List Str := ["value"]
theorem sc_is_text : FnScope N_is_text P_is_text (defScope s_is_text) := ⟨rfl, rfl, rfl, by decide +kernel, rfl, by decide +kernel, by decide +kernel⟩
abbrev a_is_text (K : Fg) : Addr := He.ga K "is_text"
theorem TX.D_is_text (T : TX K mg) : ∃ fd, FunD K "is_text" "is_text" (defArgs s_is_text) (defBody s_is_text) (defScope s_is_text) ([]) ([]) (a_is_text K) fd := let ⟨_, _, _, c⟩ := T; c.def_ 0 (d := d_is_text) rfl
abbrev N_is_name : List Str := ["value", "sign"]
abbrev P_is_name : List Str := ["value"]
theorem sc_is_name : FnScope N_is_name P_is_name (defScope s_is_name) := ⟨rfl, rfl, rfl, by decide +kernel, rfl, by decide +kernel, by decide +kernel⟩
abbrev a_is_name (K : Fg) : Addr := He.ga K "is_name"
theorem TX.D_is_name (T : TX K mg) : ∃ fd, FunD K "is_name" "is_name" (defArgs s_is_name) (defBody s_is_name) (defScope s_is_name) ([]) ([]) (a_is_name K) fd := let ⟨_, _, _, c⟩ := T; c.def_ 1 (d := d_is_name) rfl
abbrev N_is_key : List Str := ["value"]
abbrev P_is_key : List Str := ["value"]
theorem sc_is_key : FnScope N_is_key P_is_key (defScope s_is_key) := ⟨rfl, rfl, rfl, by decide +kernel, rfl, by decide +kernel, by decide +kernel⟩
abbrev a_is_key (K : Fg) : Addr := He.ga K "is_key"
theorem TX.D_is_key (T : TX K mg) : ∃ fd, FunD K "is_key" "is_key" (defArgs s_is_key) (defBody s_is_key) (defScope s_is_key) ([]) ([]) (a_is_key K) fd := let ⟨_, _, _, c⟩ := T; c.def_ 2 (d := d_is_key) rfl
abbrev N_in_order : List Str := ["places", "place"]
abbrev P_in_order : List Str := ["places"]
theorem sc_in_order : FnScope N_in_order P_in_order (defScope s_in_order) := ⟨rfl, rfl, rfl, by decide +kernel, rfl, by decide +kernel, by decide +kernel⟩
abbrev a_in_order (K : Fg) : Addr := He.ga K "in_order"
theorem TX.D_in_order (T : TX K mg) : ∃ fd, FunD K "in_order" "in_order" (defArgs s_in_order) (defBody s_in_order) (defScope s_in_order) ([]) ([]) (a_in_order K) fd := let ⟨_, _, _, c⟩ := T; c.def_ 3 (d := d_in_order) rfl
abbrev N_check_places : List Str := ["held", "written", "place", "ahead", "before", "step"]
abbrev P_check_places : List Str := ["held"]
theorem sc_check_places : FnScope N_check_places P_check_places (defScope s_check_places) := ⟨rfl, rfl, rfl, by decide +kernel, rfl, by decide +kernel, by decide +kernel⟩
abbrev a_check_places (K : Fg) : Addr := He.ga K "check_places"
theorem TX.D_check_places (T : TX K mg) : ∃ fd, FunD K "check_places" "check_places" (defArgs s_check_places) (defBody s_check_places) (defScope s_check_places) ([]) ([]) (a_check_places K) fd := let ⟨_, _, _, c⟩ := T; c.def_ 4 (d := d_check_places) rfl
abbrev N_gathered : List Str := ["steps", "held", "clashes", "place", "step"]
abbrev P_gathered : List Str := ["steps"]
theorem sc_gathered : FnScope N_gathered P_gathered (defScope s_gathered) := ⟨rfl, rfl, rfl, by decide +kernel, rfl, by decide +kernel, by decide +kernel⟩
abbrev a_gathered (K : Fg) : Addr := He.ga K "gathered"
theorem TX.D_gathered (T : TX K mg) : ∃ fd, FunD K "gathered" "gathered" (defArgs s_gathered) (defBody s_gathered) (defScope s_gathered) ([]) ([]) (a_gathered K) fd := let ⟨_, _, _, c⟩ := T; c.def_ 5 (d := d_gathered) rfl
abbrev N_read_keys : List Str := ["traces", "key", "name", "output", "trace", "found", "place", "step"]
abbrev P_read_keys : List Str := ["traces", "key"]
theorem sc_read_keys : FnScope N_read_keys P_read_keys (defScope s_read_keys) := ⟨rfl, rfl, rfl, by decide +kernel, rfl, by decide +kernel, by decide +kernel⟩
abbrev a_read_keys (K : Fg) : Addr := He.ga K "read_keys"
theorem TX.D_read_keys (T : TX K mg) : ∃ fd, FunD K "read_keys" "read_keys" (defArgs s_read_keys) (defBody s_read_keys) (defScope s_read_keys) ([]) ([]) (a_read_keys K) fd := let ⟨_, _, _, c⟩ := T; c.def_ 6 (d := d_read_keys) rfl
abbrev N_demanded_keys : List Str := ["traces", "keys", "found", "left", "key"]
abbrev P_demanded_keys : List Str := ["traces", "keys"]
theorem sc_demanded_keys : FnScope N_demanded_keys P_demanded_keys (defScope s_demanded_keys) := ⟨rfl, rfl, rfl, by decide +kernel, rfl, by decide +kernel, by decide +kernel⟩
abbrev a_demanded_keys (K : Fg) : Addr := He.ga K "demanded_keys"
theorem TX.D_demanded_keys (T : TX K mg) : ∃ fd, FunD K "demanded_keys" "demanded_keys" (defArgs s_demanded_keys) (defBody s_demanded_keys) (defScope s_demanded_keys) ([]) ([]) (a_demanded_keys K) fd := let ⟨_, _, _, c⟩ := T; c.def_ 7 (d := d_demanded_keys) rfl
abbrev N_open_ahead : List Str := ["traces", "keys", "found", "name", "output", "trace"]
abbrev P_open_ahead : List Str := ["traces", "keys"]
theorem sc_open_ahead : FnScope N_open_ahead P_open_ahead (defScope s_open_ahead) := ⟨rfl, rfl, rfl, by decide +kernel, rfl, by decide +kernel, by decide +kernel⟩
abbrev a_open_ahead (K : Fg) : Addr := He.ga K "open_ahead"
theorem TX.D_open_ahead (T : TX K mg) : ∃ fd, FunD K "open_ahead" "open_ahead" (defArgs s_open_ahead) (defBody s_open_ahead) (defScope s_open_ahead) ([]) ([]) (a_open_ahead K) fd := let ⟨_, _, _, c⟩ := T; c.def_ 8 (d := d_open_ahead) rfl
abbrev N_walk : List Str := ["project", "record", "key", "traces"]
abbrev P_walk : List Str := ["project", "record", "key"]
theorem sc_walk : FnScope N_walk P_walk (defScope s_walk) := ⟨rfl, rfl, rfl, by decide +kernel, rfl, by decide +kernel, by decide +kernel⟩
abbrev a_walk (K : Fg) : Addr := He.ga K "walk"
theorem TX.D_walk (T : TX K mg) : ∃ fd, FunD K "walk" "walk" (defArgs s_walk) (defBody s_walk) (defScope s_walk) ([]) ([]) (a_walk K) fd := let ⟨_, _, _, c⟩ := T; c.def_ 9 (d := d_walk) rfl
abbrev N_open_places : List Str := ["project", "record", "keys", "traces"]
abbrev P_open_places : List Str := ["project", "record", "keys"]
theorem sc_open_places : FnScope N_open_places P_open_places (defScope s_open_places) := ⟨rfl, rfl, rfl, by decide +kernel, rfl, by decide +kernel, by decide +kernel⟩
abbrev a_open_places (K : Fg) : Addr := He.ga K "open_places"
theorem TX.D_open_places (T : TX K mg) : ∃ fd, FunD K "open_places" "open_places" (defArgs s_open_places) (defBody s_open_places) (defScope s_open_places) ([]) ([]) (a_open_places K) fd := let ⟨_, _, _, c⟩ := T; c.def_ 10 (d := d_open_places) rfl
abbrev N_is_edit : List Str := ["deed"]
abbrev P_is_edit : List Str := ["deed"]
theorem sc_is_edit : FnScope N_is_edit P_is_edit (defScope s_is_edit) := ⟨rfl, rfl, rfl, by decide +kernel, rfl, by decide +kernel, by decide +kernel⟩
abbrev a_is_edit (K : Fg) : Addr := He.ga K "is_edit"
theorem TX.D_is_edit (T : TX K mg) : ∃ fd, FunD K "is_edit" "is_edit" (defArgs s_is_edit) (defBody s_is_edit) (defScope s_is_edit) ([]) ([]) (a_is_edit K) fd := let ⟨_, _, _, c⟩ := T; c.def_ 11 (d := d_is_edit) rfl
abbrev N_law_feed_of : List Str := ["_law_script", "_law_k", "_law_cell", "_law_great"]
abbrev P_law_feed_of : List Str := ["_law_script", "_law_k"]
theorem sc_law_feed_of : FnScope N_law_feed_of P_law_feed_of (defScope s_law_feed_of) := ⟨rfl, rfl, rfl, by decide +kernel, rfl, by decide +kernel, by decide +kernel⟩
abbrev a_law_feed_of (K : Fg) : Addr := He.ga K "_law_feed_of"
theorem TX.D_law_feed_of (T : TX K mg) : ∃ fd, FunD K "_law_feed_of" "_law_feed_of" (defArgs s_law_feed_of) (defBody s_law_feed_of) (defScope s_law_feed_of) ([]) ([]) (a_law_feed_of K) fd := let ⟨_, _, _, c⟩ := T; c.def_ 12 (d := d_law_feed_of) rfl
abbrev N_law_draw : List Str := ["_law_feed", "_law_many", "_law_digit"]
abbrev P_law_draw : List Str := ["_law_feed", "_law_many"]
theorem sc_law_draw : FnScope N_law_draw P_law_draw (defScope s_law_draw) := ⟨rfl, rfl, rfl, by decide +kernel, rfl, by decide +kernel, by decide +kernel⟩
abbrev a_law_draw (K : Fg) : Addr := He.ga K "_law_draw"
theorem TX.D_law_draw (T : TX K mg) : ∃ fd, FunD K "_law_draw" "_law_draw" (defArgs s_law_draw) (defBody s_law_draw) (defScope s_law_draw) ([]) ([]) (a_law_draw K) fd := let ⟨_, _, _, c⟩ := T; c.def_ 13 (d := d_law_draw) rfl
abbrev N_law_pick : List Str := ["_law_feed", "_law_items"]
abbrev P_law_pick : List Str := ["_law_feed", "_law_items"]
theorem sc_law_pick : FnScope N_law_pick P_law_pick (defScope s_law_pick) := ⟨rfl, rfl, rfl, by decide +kernel, rfl, by decide +kernel, by decide +kernel⟩
abbrev a_law_pick (K : Fg) : Addr := He.ga K "_law_pick"
theorem TX.D_law_pick (T : TX K mg) : ∃ fd, FunD K "_law_pick" "_law_pick" (defArgs s_law_pick) (defBody s_law_pick) (defScope s_law_pick) ([]) ([]) (a_law_pick K) fd := let ⟨_, _, _, c⟩ := T; c.def_ 14 (d := d_law_pick) rfl
abbrev N_law_wrong_items : List Str := ["_law_names", "_law_texts", "_law_keys"]
abbrev P_law_wrong_items : List Str := []
theorem sc_law_wrong_items : FnScope N_law_wrong_items P_law_wrong_items (defScope s_law_wrong_items) := ⟨rfl, rfl, rfl, by decide +kernel, rfl, by decide +kernel, by decide +kernel⟩
abbrev a_law_wrong_items (K : Fg) : Addr := He.ga K "_law_wrong_items"
theorem TX.D_law_wrong_items (T : TX K mg) : ∃ fd, FunD K "_law_wrong_items" "_law_wrong_items" (defArgs s_law_wrong_items) (defBody s_law_wrong_items) (defScope s_law_wrong_items) ([]) ([]) (a_law_wrong_items K) fd := let ⟨_, _, _, c⟩ := T; c.def_ 15 (d := d_law_wrong_items) rfl
abbrev N_law_right_deeds : List Str := ["_law_some"]
abbrev P_law_right_deeds : List Str := []
theorem sc_law_right_deeds : FnScope N_law_right_deeds P_law_right_deeds (defScope s_law_right_deeds) := ⟨rfl, rfl, rfl, by decide +kernel, rfl, by decide +kernel, by decide +kernel⟩
abbrev a_law_right_deeds (K : Fg) : Addr := He.ga K "_law_right_deeds"
theorem TX.D_law_right_deeds (T : TX K mg) : ∃ fd, FunD K "_law_right_deeds" "_law_right_deeds" (defArgs s_law_right_deeds) (defBody s_law_right_deeds) (defScope s_law_right_deeds) ([]) ([]) (a_law_right_deeds K) fd := let ⟨_, _, _, c⟩ := T; c.def_ 16 (d := d_law_right_deeds) rfl
abbrev N_law_spoilt : List Str := ["_law_feed", "_law_deed", "_law_sorts", "_law_form", "_law_at", "_law_wrong"]
abbrev P_law_spoilt : List Str := ["_law_feed"]
theorem sc_law_spoilt : FnScope N_law_spoilt P_law_spoilt (defScope s_law_spoilt) := ⟨rfl, rfl, rfl, by decide +kernel, rfl, by decide +kernel, by decide +kernel⟩
abbrev a_law_spoilt (K : Fg) : Addr := He.ga K "_law_spoilt"
theorem TX.D_law_spoilt (T : TX K mg) : ∃ fd, FunD K "_law_spoilt" "_law_spoilt" (defArgs s_law_spoilt) (defBody s_law_spoilt) (defScope s_law_spoilt) ([]) ([]) (a_law_spoilt K) fd := let ⟨_, _, _, c⟩ := T; c.def_ 17 (d := d_law_spoilt) rfl
abbrev N_law_nested : List Str := ["_law_feed", "_law_deeds", "_law_deep", "_law_ahead", "_law_turn", "_law_inner", "_law_way", "_law_within"]
abbrev P_law_nested : List Str := ["_law_feed", "_law_deeds", "_law_deep"]
theorem sc_law_nested : FnScope N_law_nested P_law_nested (defScope s_law_nested) := ⟨rfl, rfl, rfl, by decide +kernel, rfl, by decide +kernel, by decide +kernel⟩
abbrev a_law_nested (K : Fg) : Addr := He.ga K "_law_nested"
theorem TX.D_law_nested (T : TX K mg) : ∃ fd, FunD K "_law_nested" "_law_nested" (defArgs s_law_nested) (defBody s_law_nested) (defScope s_law_nested) ([]) ([]) (a_law_nested K) fd := let ⟨_, _, _, c⟩ := T; c.def_ 18 (d := d_law_nested) rfl
abbrev N_law_told : List Str := ["_law_session", "_law_deeds", "_law_found", "e"]
abbrev P_law_told : List Str := ["_law_session", "_law_deeds"]
theorem sc_law_told : FnScope N_law_told P_law_told (defScope s_law_told) := ⟨rfl, rfl, rfl, by decide +kernel, rfl, by decide +kernel, by decide +kernel⟩
abbrev a_law_told (K : Fg) : Addr := He.ga K "_law_told"
theorem TX.D_law_told (T : TX K mg) : ∃ fd, FunD K "_law_told" "_law_told" (defArgs s_law_told) (defBody s_law_told) (defScope s_law_told) ([]) ([]) (a_law_told K) fd := let ⟨_, _, _, c⟩ := T; c.def_ 19 (d := d_law_told) rfl
abbrev N_law : List Str := ["_law_script", "_law_k", "_law_feed", "_law_plain", "_law_session", "_law_base", "_law_log", "_law_turn", "_law_deeds", "_law_way", "_law_found", "_law_deed", "_law_sorts"]
abbrev P_law : List Str := ["_law_script"]
theorem sc_law : FnScope N_law P_law (defScope s_law) := ⟨rfl, rfl, rfl, by decide +kernel, rfl, by decide +kernel, by decide +kernel⟩
abbrev a_law (K : Fg) : Addr := He.ga K "law"
theorem TX.D_law (T : TX K mg) : ∃ fd, FunD K "law" "law" (defArgs s_law) (defBody s_law) (defScope s_law) ([]) ([]) (a_law K) fd := let ⟨_, _, _, c⟩ := T; c.def_ 20 (d := d_law) rfl
abbrev N_Record_init : List Str := ["self", "steps", "held"]
abbrev P_Record_init : List Str := ["self", "steps", "held"]
theorem sc_Record_init : FnScope N_Record_init P_Record_init (defScope s_Record_init) := ⟨rfl, rfl, rfl, by decide +kernel, rfl, by decide +kernel, by decide +kernel⟩
abbrev a_Record_init (K : Fg) : Addr := He.ma K (He.ga K "Record") "__init__"
theorem TX.D_Record_init (T : TX K mg) : ∃ fd, FunD K "__init__" "Record.__init__" (defArgs s_Record_init) (defBody s_Record_init) (defScope s_Record_init) (d_Record_init.dvs K) ([]) (a_Record_init K) fd := let ⟨_, _, _, c⟩ := T; c.def_ 21 (d := d_Record_init) rfl
abbrev N_Source_init : List Str := ["self", "outputs"]
abbrev P_Source_init : List Str := ["self", "outputs"]
theorem sc_Source_init : FnScope N_Source_init P_Source_init (defScope s_Source_init) := ⟨rfl, rfl, rfl, by decide +kernel, rfl, by decide +kernel, by decide +kernel⟩
abbrev a_Source_init (K : Fg) : Addr := He.ma K (He.ga K "Source") "__init__"
theorem TX.D_Source_init (T : TX K mg) : ∃ fd, FunD K "__init__" "Source.__init__" (defArgs s_Source_init) (defBody s_Source_init) (defScope s_Source_init) ([]) ([]) (a_Source_init K) fd := let ⟨_, _, _, c⟩ := T; c.def_ 22 (d := d_Source_init) rfl
abbrev N_Source_outputs : List Str := ["self"]
abbrev P_Source_outputs : List Str := ["self"]
theorem sc_Source_outputs : FnScope N_Source_outputs P_Source_outputs (defScope s_Source_outputs) := ⟨rfl, rfl, rfl, by decide +kernel, rfl, by decide +kernel, by decide +kernel⟩
abbrev a_Source_outputs (K : Fg) : Addr := gAd K "Source" "outputs"
theorem TX.D_Source_outputs (T : TX K mg) : ∃ fd, FunD K "outputs" "Source.outputs" (defArgs s_Source_outputs) (defBody s_Source_outputs) (defScope s_Source_outputs) ([]) ([]) (a_Source_outputs K) fd := let ⟨_, _, _, c⟩ := T; c.def_ 23 (d := d_Source_outputs) rfl
abbrev N_Source_eq : List Str := ["self", "other"]
abbrev P_Source_eq : List Str := ["self", "other"]
theorem sc_Source_eq : FnScope N_Source_eq P_Source_eq (defScope s_Source_eq) := ⟨rfl, rfl, rfl, by decide +kernel, rfl, by decide +kernel, by decide +kernel⟩
abbrev a_Source_eq (K : Fg) : Addr := He.ma K (He.ga K "Source") "__eq__"
theorem TX.D_Source_eq (T : TX K mg) : ∃ fd, FunD K "__eq__" "Source.__eq__" (defArgs s_Source_eq) (defBody s_Source_eq) (defScope s_Source_eq) ([]) ([]) (a_Source_eq K) fd := let ⟨_, _, _, c⟩ := T; c.def_ 24 (d := d_Source_eq) rfl
abbrev N_Project_init : List Str := ["self", "targets"]
abbrev P_Project_init : List Str := ["self", "targets"]
theorem sc_Project_init : FnScope N_Project_init P_Project_init (defScope s_Project_init) := ⟨rfl, rfl, rfl, by decide +kernel, rfl, by decide +kernel, by decide +kernel⟩
abbrev a_Project_init (K : Fg) : Addr := He.ma K (He.ga K "Project") "__init__"
theorem TX.D_Project_init (T : TX K mg) : ∃ fd, FunD K "__init__" "Project.__init__" (defArgs s_Project_init) (defBody s_Project_init) (defScope s_Project_init) ([]) ([]) (a_Project_init K) fd := let ⟨_, _, _, c⟩ := T; c.def_ 25 (d := d_Project_init) rfl
abbrev N_Project_contains : List Str := ["self", "name"]
abbrev P_Project_contains : List Str := ["self", "name"]
theorem sc_Project_contains : FnScope N_Project_contains P_Project_contains (defScope s_Project_contains) := ⟨rfl, rfl, rfl, by decide +kernel, rfl, by decide +kernel, by decide +kernel⟩
abbrev a_Project_contains (K : Fg) : Addr := He.ma K (He.ga K "Project") "__contains__"
theorem TX.D_Project_contains (T : TX K mg) : ∃ fd, FunD K "__contains__" "Project.__contains__" (defArgs s_Project_contains) (defBody s_Project_contains) (defScope s_Project_contains) ([]) ([]) (a_Project_contains K) fd := let ⟨_, _, _, c⟩ := T; c.def_ 26 (d := d_Project_contains) rfl
abbrev N_Project_getitem : List Str := ["self", "name"]
abbrev P_Project_getitem : List Str := ["self", "name"]
theorem sc_Project_getitem : FnScope N_Project_getitem P_Project_getitem (defScope s_Project_getitem) := ⟨rfl, rfl, rfl, by decide +kernel, rfl, by decide +kernel, by decide +kernel⟩
abbrev a_Project_getitem (K : Fg) : Addr := He.ma K (He.ga K "Project") "__getitem__"
theorem TX.D_Project_getitem (T : TX K mg) : ∃ fd, FunD K "__getitem__" "Project.__getitem__" (defArgs s_Project_getitem) (defBody s_Project_getitem) (defScope s_Project_getitem) ([]) ([]) (a_Project_getitem K) fd := let ⟨_, _, _, c⟩ := T; c.def_ 27 (d := d_Project_getitem) rfl
abbrev N_Project_eq : List Str := ["self", "other"]
abbrev P_Project_eq : List Str := ["self", "other"]
theorem sc_Project_eq : FnScope N_Project_eq P_Project_eq (defScope s_Project_eq) := ⟨rfl, rfl, rfl, by decide +kernel, rfl, by decide +kernel, by decide +kernel⟩
abbrev a_Project_eq (K : Fg) : Addr := He.ma K (He.ga K "Project") "__eq__"
theorem TX.D_Project_eq (T : TX K mg) : ∃ fd, FunD K "__eq__" "Project.__eq__" (defArgs s_Project_eq) (defBody s_Project_eq) (defScope s_Project_eq) ([]) ([]) (a_Project_eq K) fd := let ⟨_, _, _, c⟩ := T; c.def_ 28 (d := d_Project_eq) rfl
abbrev N_Project_names : List Str := ["self"]
abbrev P_Project_names : List Str := ["self"]
theorem sc_Project_names : FnScope N_Project_names P_Project_names (defScope s_Project_names) := ⟨rfl, rfl, rfl, by decide +kernel, rfl, by decide +kernel, by decide +kernel⟩
abbrev a_Project_names (K : Fg) : Addr := gAd K "Project" "names"
theorem TX.D_Project_names (T : TX K mg) : ∃ fd, FunD K "names" "Project.names" (defArgs s_Project_names) (defBody s_Project_names) (defScope s_Project_names) ([]) ([]) (a_Project_names K) fd := let ⟨_, _, _, c⟩ := T; c.def_ 29 (d := d_Project_names) rfl
abbrev N_Project_put : List Str := ["self", "name", "target"]
abbrev P_Project_put : List Str := ["self", "name", "target"]
theorem sc_Project_put : FnScope N_Project_put P_Project_put (defScope s_Project_put) := ⟨rfl, rfl, rfl, by decide +kernel, rfl, by decide +kernel, by decide +kernel⟩
abbrev a_Project_put (K : Fg) : Addr := He.ma K (He.ga K "Project") "put"
theorem TX.D_Project_put (T : TX K mg) : ∃ fd, FunD K "put" "Project.put" (defArgs s_Project_put) (defBody s_Project_put) (defScope s_Project_put) ([]) ([]) (a_Project_put K) fd := let ⟨_, _, _, c⟩ := T; c.def_ 30 (d := d_Project_put) rfl
abbrev N_Project_without : List Str := ["self", "name", "other", "target"]
abbrev P_Project_without : List Str := ["self", "name"]
theorem sc_Project_without : FnScope N_Project_without P_Project_without (defScope s_Project_without) := ⟨rfl, rfl, rfl, by decide +kernel, rfl, by decide +kernel, by decide +kernel⟩
abbrev a_Project_without (K : Fg) : Addr := He.ma K (He.ga K "Project") "without"
theorem TX.D_Project_without (T : TX K mg) : ∃ fd, FunD K "without" "Project.without" (defArgs s_Project_without) (defBody s_Project_without) (defScope s_Project_without) ([]) ([]) (a_Project_without K) fd := let ⟨_, _, _, c⟩ := T; c.def_ 31 (d := d_Project_without) rfl
abbrev N_Project_source_outputs : List Str := ["self", "name", "target"]
abbrev P_Project_source_outputs : List Str := ["self", "name"]
theorem sc_Project_source_outputs : FnScope N_Project_source_outputs P_Project_source_outputs (defScope s_Project_source_outputs) := ⟨rfl, rfl, rfl, by decide +kernel, rfl, by decide +kernel, by decide +kernel⟩
abbrev a_Project_source_outputs (K : Fg) : Addr := He.ma K (He.ga K "Project") "source_outputs"
theorem TX.D_Project_source_outputs (T : TX K mg) : ∃ fd, FunD K "source_outputs" "Project.source_outputs" (defArgs s_Project_source_outputs) (defBody s_Project_source_outputs) (defScope s_Project_source_outputs) ([]) ([]) (a_Project_source_outputs K) fd := let ⟨_, _, _, c⟩ := T; c.def_ 32 (d := d_Project_source_outputs) rfl
abbrev N_Project_write : List Str := ["self", "name", "output", "text", "outputs"]
abbrev P_Project_write : List Str := ["self", "name", "output", "text"]
theorem sc_Project_write : FnScope N_Project_write P_Project_write (defScope s_Project_write) := ⟨rfl, rfl, rfl, by decide +kernel, rfl, by decide +kernel, by decide +kernel⟩
abbrev a_Project_write (K : Fg) : Addr := He.ma K (He.ga K "Project") "write"
theorem TX.D_Project_write (T : TX K mg) : ∃ fd, FunD K "write" "Project.write" (defArgs s_Project_write) (defBody s_Project_write) (defScope s_Project_write) ([]) ([]) (a_Project_write K) fd := let ⟨_, _, _, c⟩ := T; c.def_ 33 (d := d_Project_write) rfl
abbrev N_Project_erase : List Str := ["self", "name", "output", "outputs"]
abbrev P_Project_erase : List Str := ["self", "name", "output"]
theorem sc_Project_erase : FnScope N_Project_erase P_Project_erase (defScope s_Project_erase) := ⟨rfl, rfl, rfl, by decide +kernel, rfl, by decide +kernel, by decide +kernel⟩
abbrev a_Project_erase (K : Fg) : Addr := He.ma K (He.ga K "Project") "erase"
theorem TX.D_Project_erase (T : TX K mg) : ∃ fd, FunD K "erase" "Project.erase" (defArgs s_Project_erase) (defBody s_Project_erase) (defScope s_Project_erase) ([]) ([]) (a_Project_erase K) fd := let ⟨_, _, _, c⟩ := T; c.def_ 34 (d := d_Project_erase) rfl
abbrev N_Traces_init : List Str := ["self", "project", "guide", "name", "moving", "trace"]
abbrev P_Traces_init : List Str := ["self", "project", "guide"]
theorem sc_Traces_init : FnScope N_Traces_init P_Traces_init (defScope s_Traces_init) := ⟨rfl, rfl, rfl, by decide +kernel, rfl, by decide +kernel, by decide +kernel⟩
abbrev a_Traces_init (K : Fg) : Addr := He.ma K (He.ga K "Traces") "__init__"
theorem TX.D_Traces_init (T : TX K mg) : ∃ fd, FunD K "__init__" "Traces.__init__" (defArgs s_Traces_init) (defBody s_Traces_init) (defScope s_Traces_init) ([]) ([]) (a_Traces_init K) fd := let ⟨_, _, _, c⟩ := T; c.def_ 35 (d := d_Traces_init) rfl
abbrev N_Traces_is_settled : List Str := ["self", "key", "name", "output", "trace"]
abbrev P_Traces_is_settled : List Str := ["self", "key"]
theorem sc_Traces_is_settled : FnScope N_Traces_is_settled P_Traces_is_settled (defScope s_Traces_is_settled) := ⟨rfl, rfl, rfl, by decide +kernel, rfl, by decide +kernel, by decide +kernel⟩
abbrev a_Traces_is_settled (K : Fg) : Addr := He.ma K (He.ga K "Traces") "is_settled"
theorem TX.D_Traces_is_settled (T : TX K mg) : ∃ fd, FunD K "is_settled" "Traces.is_settled" (defArgs s_Traces_is_settled) (defBody s_Traces_is_settled) (defScope s_Traces_is_settled) ([]) ([]) (a_Traces_is_settled K) fd := let ⟨_, _, _, c⟩ := T; c.def_ 36 (d := d_Traces_is_settled) rfl
abbrev N_Traces_answer : List Str := ["self", "key", "name", "output"]
abbrev P_Traces_answer : List Str := ["self", "key"]
theorem sc_Traces_answer : FnScope N_Traces_answer P_Traces_answer (defScope s_Traces_answer) := ⟨rfl, rfl, rfl, by decide +kernel, rfl, by decide +kernel, by decide +kernel⟩
abbrev a_Traces_answer (K : Fg) : Addr := He.ma K (He.ga K "Traces") "answer"
theorem TX.D_Traces_answer (T : TX K mg) : ∃ fd, FunD K "answer" "Traces.answer" (defArgs s_Traces_answer) (defBody s_Traces_answer) (defScope s_Traces_answer) ([]) ([]) (a_Traces_answer K) fd := let ⟨_, _, _, c⟩ := T; c.def_ 37 (d := d_Traces_answer) rfl
abbrev N_Engine_init : List Str := ["self", "workshop", "record"]
abbrev P_Engine_init : List Str := ["self", "workshop", "record"]
theorem sc_Engine_init : FnScope N_Engine_init P_Engine_init (defScope s_Engine_init) := ⟨rfl, rfl, rfl, by decide +kernel, rfl, by decide +kernel, by decide +kernel⟩
abbrev a_Engine_init (K : Fg) : Addr := He.ma K (He.ga K "Engine") "__init__"
theorem TX.D_Engine_init (T : TX K mg) : ∃ fd, FunD K "__init__" "Engine.__init__" (defArgs s_Engine_init) (defBody s_Engine_init) (defScope s_Engine_init) ([]) (d_Engine_init.kws K) (a_Engine_init K) fd := let ⟨_, _, _, c⟩ := T; c.def_ 38 (d := d_Engine_init) rfl
abbrev N_Engine_ask : List Str := ["self", "project", "key"]
abbrev P_Engine_ask : List Str := ["self", "project", "key"]
theorem sc_Engine_ask : FnScope N_Engine_ask P_Engine_ask (defScope s_Engine_ask) := ⟨rfl, rfl, rfl, by decide +kernel, rfl, by decide +kernel, by decide +kernel⟩
abbrev a_Engine_ask (K : Fg) : Addr := He.ma K (He.ga K "Engine") "ask"
theorem TX.D_Engine_ask (T : TX K mg) : ∃ fd, FunD K "ask" "Engine.ask" (defArgs s_Engine_ask) (defBody s_Engine_ask) (defScope s_Engine_ask) ([]) ([]) (a_Engine_ask K) fd := let ⟨_, _, _, c⟩ := T; c.def_ 39 (d := d_Engine_ask) rfl
abbrev N_Engine_pursue : List Str := ["self", "project", "keys", "many", "places"]
abbrev P_Engine_pursue : List Str := ["self", "project", "keys"]
theorem sc_Engine_pursue : FnScope N_Engine_pursue P_Engine_pursue (defScope s_Engine_pursue) := ⟨rfl, rfl, rfl, by decide +kernel, rfl, by decide +kernel, by decide +kernel⟩
abbrev a_Engine_pursue (K : Fg) : Addr := He.ma K (He.ga K "Engine") "pursue"
theorem TX.D_Engine_pursue (T : TX K mg) : ∃ fd, FunD K "pursue" "Engine.pursue" (defArgs s_Engine_pursue) (defBody s_Engine_pursue) (defScope s_Engine_pursue) ([]) ([]) (a_Engine_pursue K) fd := let ⟨_, _, _, c⟩ := T; c.def_ 40 (d := d_Engine_pursue) rfl
abbrev N_Session_init : List Str := ["self", "workshop", "project", "record"]
abbrev P_Session_init : List Str := ["self", "workshop", "project", "record"]
theorem sc_Session_init : FnScope N_Session_init P_Session_init (defScope s_Session_init) := ⟨rfl, rfl, rfl, by decide +kernel, rfl, by decide +kernel, by decide +kernel⟩
abbrev a_Session_init (K : Fg) : Addr := He.ma K (He.ga K "Session") "__init__"
theorem TX.D_Session_init (T : TX K mg) : ∃ fd, FunD K "__init__" "Session.__init__" (defArgs s_Session_init) (defBody s_Session_init) (defScope s_Session_init) ([]) (d_Session_init.kws K) (a_Session_init K) fd := let ⟨_, _, _, c⟩ := T; c.def_ 41 (d := d_Session_init) rfl
abbrev N_Session_project : List Str := ["self"]
abbrev P_Session_project : List Str := ["self"]
theorem sc_Session_project : FnScope N_Session_project P_Session_project (defScope s_Session_project) := ⟨rfl, rfl, rfl, by decide +kernel, rfl, by decide +kernel, by decide +kernel⟩
abbrev a_Session_project (K : Fg) : Addr := gAd K "Session" "project"
theorem TX.D_Session_project (T : TX K mg) : ∃ fd, FunD K "project" "Session.project" (defArgs s_Session_project) (defBody s_Session_project) (defScope s_Session_project) ([]) ([]) (a_Session_project K) fd := let ⟨_, _, _, c⟩ := T; c.def_ 42 (d := d_Session_project) rfl
abbrev N_Session_log : List Str := ["self", "deed", "before"]
abbrev P_Session_log : List Str := ["self"]
theorem sc_Session_log : FnScope N_Session_log P_Session_log (defScope s_Session_log) := ⟨rfl, rfl, rfl, by decide +kernel, rfl, by decide +kernel, by decide +kernel⟩
abbrev a_Session_log (K : Fg) : Addr := He.ma K (He.ga K "Session") "log"
theorem TX.D_Session_log (T : TX K mg) : ∃ fd, FunD K "log" "Session.log" (defArgs s_Session_log) (defBody s_Session_log) (defScope s_Session_log) ([]) ([]) (a_Session_log K) fd := let ⟨_, _, _, c⟩ := T; c.def_ 43 (d := d_Session_log) rfl
abbrev N_Session_change : List Str := ["self", "deed", "project"]
abbrev P_Session_change : List Str := ["self", "deed", "project"]
theorem sc_Session_change : FnScope N_Session_change P_Session_change (defScope s_Session_change) := ⟨rfl, rfl, rfl, by decide +kernel, rfl, by decide +kernel, by decide +kernel⟩
abbrev a_Session_change (K : Fg) : Addr := He.ma K (He.ga K "Session") "change"
theorem TX.D_Session_change (T : TX K mg) : ∃ fd, FunD K "change" "Session.change" (defArgs s_Session_change) (defBody s_Session_change) (defScope s_Session_change) ([]) ([]) (a_Session_change K) fd := let ⟨_, _, _, c⟩ := T; c.def_ 44 (d := d_Session_change) rfl
abbrev N_Session_put : List Str := ["self", "name", "target"]
abbrev P_Session_put : List Str := ["self", "name", "target"]
theorem sc_Session_put : FnScope N_Session_put P_Session_put (defScope s_Session_put) := ⟨rfl, rfl, rfl, by decide +kernel, rfl, by decide +kernel, by decide +kernel⟩
abbrev a_Session_put (K : Fg) : Addr := He.ma K (He.ga K "Session") "put"
theorem TX.D_Session_put (T : TX K mg) : ∃ fd, FunD K "put" "Session.put" (defArgs s_Session_put) (defBody s_Session_put) (defScope s_Session_put) ([]) ([]) (a_Session_put K) fd := let ⟨_, _, _, c⟩ := T; c.def_ 45 (d := d_Session_put) rfl
abbrev N_Session_without : List Str := ["self", "name"]
abbrev P_Session_without : List Str := ["self", "name"]
theorem sc_Session_without : FnScope N_Session_without P_Session_without (defScope s_Session_without) := ⟨rfl, rfl, rfl, by decide +kernel, rfl, by decide +kernel, by decide +kernel⟩
abbrev a_Session_without (K : Fg) : Addr := He.ma K (He.ga K "Session") "without"
theorem TX.D_Session_without (T : TX K mg) : ∃ fd, FunD K "without" "Session.without" (defArgs s_Session_without) (defBody s_Session_without) (defScope s_Session_without) ([]) ([]) (a_Session_without K) fd := let ⟨_, _, _, c⟩ := T; c.def_ 46 (d := d_Session_without) rfl
abbrev N_Session_write : List Str := ["self", "name", "output", "text"]
abbrev P_Session_write : List Str := ["self", "name", "output", "text"]
theorem sc_Session_write : FnScope N_Session_write P_Session_write (defScope s_Session_write) := ⟨rfl, rfl, rfl, by decide +kernel, rfl, by decide +kernel, by decide +kernel⟩
abbrev a_Session_write (K : Fg) : Addr := He.ma K (He.ga K "Session") "write"
theorem TX.D_Session_write (T : TX K mg) : ∃ fd, FunD K "write" "Session.write" (defArgs s_Session_write) (defBody s_Session_write) (defScope s_Session_write) ([]) ([]) (a_Session_write K) fd := let ⟨_, _, _, c⟩ := T; c.def_ 47 (d := d_Session_write) rfl
abbrev N_Session_erase : List Str := ["self", "name", "output"]
abbrev P_Session_erase : List Str := ["self", "name", "output"]
theorem sc_Session_erase : FnScope N_Session_erase P_Session_erase (defScope s_Session_erase) := ⟨rfl, rfl, rfl, by decide +kernel, rfl, by decide +kernel, by decide +kernel⟩
abbrev a_Session_erase (K : Fg) : Addr := He.ma K (He.ga K "Session") "erase"
theorem TX.D_Session_erase (T : TX K mg) : ∃ fd, FunD K "erase" "Session.erase" (defArgs s_Session_erase) (defBody s_Session_erase) (defScope s_Session_erase) ([]) ([]) (a_Session_erase K) fd := let ⟨_, _, _, c⟩ := T; c.def_ 48 (d := d_Session_erase) rfl
abbrev N_Session_ask : List Str := ["self", "key"]
abbrev P_Session_ask : List Str := ["self", "key"]
theorem sc_Session_ask : FnScope N_Session_ask P_Session_ask (defScope s_Session_ask) := ⟨rfl, rfl, rfl, by decide +kernel, rfl, by decide +kernel, by decide +kernel⟩
abbrev a_Session_ask (K : Fg) : Addr := He.ma K (He.ga K "Session") "ask"
theorem TX.D_Session_ask (T : TX K mg) : ∃ fd, FunD K "ask" "Session.ask" (defArgs s_Session_ask) (defBody s_Session_ask) (defScope s_Session_ask) ([]) ([]) (a_Session_ask K) fd := let ⟨_, _, _, c⟩ := T; c.def_ 49 (d := d_Session_ask) rfl
abbrev N_Session_undo : List Str := ["self", "deed"]
abbrev P_Session_undo : List Str := ["self"]
theorem sc_Session_undo : FnScope N_Session_undo P_Session_undo (defScope s_Session_undo) := ⟨rfl, rfl, rfl, by decide +kernel, rfl, by decide +kernel, by decide +kernel⟩
abbrev a_Session_undo (K : Fg) : Addr := He.ma K (He.ga K "Session") "undo"
theorem TX.D_Session_undo (T : TX K mg) : ∃ fd, FunD K "undo" "Session.undo" (defArgs s_Session_undo) (defBody s_Session_undo) (defScope s_Session_undo) ([]) ([]) (a_Session_undo K) fd := let ⟨_, _, _, c⟩ := T; c.def_ 50 (d := d_Session_undo) rfl
abbrev N_Session_edit : List Str := ["self", "deed"]
abbrev P_Session_edit : List Str := ["self", "deed"]
theorem sc_Session_edit : FnScope N_Session_edit P_Session_edit (defScope s_Session_edit) := ⟨rfl, rfl, rfl, by decide +kernel, rfl, by decide +kernel, by decide +kernel⟩
abbrev a_Session_edit (K : Fg) : Addr := He.ma K (He.ga K "Session") "edit"
theorem TX.D_Session_edit (T : TX K mg) : ∃ fd, FunD K "edit" "Session.edit" (defArgs s_Session_edit) (defBody s_Session_edit) (defScope s_Session_edit) ([]) ([]) (a_Session_edit K) fd := let ⟨_, _, _, c⟩ := T; c.def_ 51 (d := d_Session_edit) rfl
abbrev N_Session_do_deed : List Str := ["self", "deed"]
abbrev P_Session_do_deed : List Str := ["self", "deed"]
theorem sc_Session_do_deed : FnScope N_Session_do_deed P_Session_do_deed (defScope s_Session_do_deed) := ⟨rfl, rfl, rfl, by decide +kernel, rfl, by decide +kernel, by decide +kernel⟩
abbrev a_Session_do_deed (K : Fg) : Addr := He.ma K (He.ga K "Session") "do_deed"
theorem TX.D_Session_do_deed (T : TX K mg) : ∃ fd, FunD K "do_deed" "Session.do_deed" (defArgs s_Session_do_deed) (defBody s_Session_do_deed) (defScope s_Session_do_deed) ([]) ([]) (a_Session_do_deed K) fd := let ⟨_, _, _, c⟩ := T; c.def_ 52 (d := d_Session_do_deed) rfl
abbrev N_Session_do_deeds : List Str := ["self", "deeds", "results", "index", "deed", "e"]
abbrev P_Session_do_deeds : List Str := ["self", "deeds"]
theorem sc_Session_do_deeds : FnScope N_Session_do_deeds P_Session_do_deeds (defScope s_Session_do_deeds) := ⟨rfl, rfl, rfl, by decide +kernel, rfl, by decide +kernel, by decide +kernel⟩
abbrev a_Session_do_deeds (K : Fg) : Addr := He.ma K (He.ga K "Session") "do_deeds"
theorem TX.D_Session_do_deeds (T : TX K mg) : ∃ fd, FunD K "do_deeds" "Session.do_deeds" (defArgs s_Session_do_deeds) (defBody s_Session_do_deeds) (defScope s_Session_do_deeds) ([]) ([]) (a_Session_do_deeds K) fd := let ⟨_, _, _, c⟩ := T; c.def_ 53 (d := d_Session_do_deeds) rfl
abbrev N_Session_attempt : List Str := ["self", "deeds", "keep", "project", "past", "floor", "results"]
abbrev P_Session_attempt : List Str := ["self", "deeds", "keep"]
theorem sc_Session_attempt : FnScope N_Session_attempt P_Session_attempt (defScope s_Session_attempt) := ⟨rfl, rfl, rfl, by decide +kernel, rfl, by decide +kernel, by decide +kernel⟩
abbrev a_Session_attempt (K : Fg) : Addr := He.ma K (He.ga K "Session") "attempt"
theorem TX.D_Session_attempt (T : TX K mg) : ∃ fd, FunD K "attempt" "Session.attempt" (defArgs s_Session_attempt) (defBody s_Session_attempt) (defScope s_Session_attempt) ([]) (d_Session_attempt.kws K) (a_Session_attempt K) fd := let ⟨_, _, _, c⟩ := T; c.def_ 54 (d := d_Session_attempt) rfl
abbrev N_Workshop_init : List Str := ["self", "recipes"]
abbrev P_Workshop_init : List Str := ["self", "recipes"]
theorem sc_Workshop_init : FnScope N_Workshop_init P_Workshop_init (defScope s_Workshop_init) := ⟨rfl, rfl, rfl, by decide +kernel, rfl, by decide +kernel, by decide +kernel⟩
abbrev a_Workshop_init (K : Fg) : Addr := He.ma K (He.ga K "Workshop") "__init__"
theorem TX.D_Workshop_init (T : TX K mg) : ∃ fd, FunD K "__init__" "Workshop.__init__" (defArgs s_Workshop_init) (defBody s_Workshop_init) (defScope s_Workshop_init) ([]) ([]) (a_Workshop_init K) fd := let ⟨_, _, _, c⟩ := T; c.def_ 55 (d := d_Workshop_init) rfl
theorem TX.extra (T : TX K mg) (i : Nat) {f : Fg → Bool} (h : ex[i]? = some f := by rfl) : f K = true := let ⟨_, _, _, c⟩ := T; c.extra i h
end
end K98
/-! K98Exc -/
set_option Elab.async false
set_option linter.all false
set_option maxRecDepth 100000
set_option maxHeartbeats 4000000
/-! Exceptions in flight whose context is a chain of older ones (a raise in an except suite, nested). -/
namespace K98
open PySem PySem.Spec PyProof.Rows L2
abbrev St := L2.St
abbrev Pin := Addr × Obj
/-- v is the head of the chain cs of contexts, the last one's context is None -/
def Chn : List Pin → Value → Prop
  | [], v => v = .none
  | p :: r, v => v = .ref p.1 ∧ ∃ vs : Array Value, p.2.data = .fields vs ∧ ∃ v', vs[2]? = some v' ∧ Chn r v'
/-- what is kept of an exception's object: its class, its dict, its context -/
def Zk (cls : Value) (d : Option Addr) (v : Value) : Obj → Prop := fun o => o.cls = cls ∧ o.dict = d ∧ ∀ vs : Array Value, o.data = .fields vs → vs[2]? = some v
theorem Zk.zc {cls : Value} {d : Option Addr} {v : Value} {o : Obj} (h : Zk cls d v o) : Zc cls d o := ⟨h.1, h.2.1⟩
theorem Zk.steady {cls : Value} {d : Option Addr} {v : Value} : PXN.Steady1 (Zk cls d v) := fun o u h => by
  refine ⟨PXN.steady_cls o u h.1, PXN.steady_dict o u h.2.1, ?_⟩
  obtain ⟨c, dd, dt, sl⟩ := o
  have h3 := h.2.2
  intro ws ew
  cases dt with
  | fields w0 =>
    have e1 : w0.setIfInBounds 1 u = ws := Data.fields.inj ew
    have e2 : (w0.setIfInBounds 1 u)[2]? = w0[2]? := by simp [Array.getElem?_setIfInBounds]
    rw [← e1, e2]
    exact h3 w0 rfl
  | _ => first | exact Data.noConfusion ew | cases ew
/-- the chain stands: in the ground B, out of what H tracks -/
def Stand (cs : List Pin) (B : Heap) (H : Hp) : Prop := ∀ p ∈ cs, B.get? p.1 = some p.2 ∧ H p.1 = none
/-- an exception in the air of X -/
def XEk (X : Cx) (W : WX) (u : Value) (s' : Shared) : Prop :=
  ∃ (a : Addr) (B : Heap) (sI : Shared) (pins : List Pin) (σ : St) (H : Hp) (cls : Value) (d : Option Addr) (v : Value) (cs : List Pin),
    u = .ref a ∧ Inv X pins σ H sI ∧ (∀ b o, sI.heap.get? b = some o → b ∉ frs X.stack → B.get? b = some o) ∧ sI.heap.UpToSlots s'.heap ∧
      Sky B X.stack a (Zk cls d v) X.env.locals s'.heap ∧ H a = none ∧ s'.os = sI.os ∧ AllBare s'.gens ∧ Chn cs v ∧ Stand cs B H ∧ W cls d σ H
def TakesK (X : Cx) (W : WX) : Prop := ∀ u s', XEk X W u s' → X.xe u s'
theorem TakesK.imp {X : Cx} {W W' : WX} (t : TakesK X W) (h : ∀ c d σ H, W' c d σ H → W c d σ H) : TakesK X W' := fun u s' x => by
  obtain ⟨a, B, sI, pins, σ, H, cls, d, v, cs, e, I, nb, up, sky, na, os, ag, ch, sd, w⟩ := x
  exact t u s' ⟨a, B, sI, pins, σ, H, cls, d, v, cs, e, I, nb, up, sky, na, os, ag, ch, sd, h _ _ _ _ w⟩
/-- behind a call that let such an exception out -/
def CXk (P : Program) (w : World) (outer : List Env) (H : Hp) (s : Shared) (E : XK) (u : Value) (s' : Shared) : Prop :=
  ∃ (a : Addr) (B : Heap) (H' : Hp) (cls : Value) (d : Option Addr) (v : Value) (cs : List Pin), u = .ref a ∧ HandSPX.FlyingZ B outer a (Zk cls d v) s'.heap ∧ HOk P w H' B ∧ UB (frs outer) H H' s.heap B s'.heap ∧
    H' a = none ∧ s'.os = s.os ∧ AllBare s'.gens ∧ Chn cs v ∧ Stand cs B H' ∧ E cls d H'
section
variable {X : Cx} {pins : List Pin} {σ : St} {H : Hp} {sI s s' : Shared} {B : Heap} {W : WX} {E : XK}
/-- a call's exception is in our air -/
theorem XEk.of_call (I : Inv X pins σ H s) (hW : ∀ cls d H', E cls d H' → W cls d σ H') {u : Value} (c : CXk X.prog X.w X.stack H s E u s') : XEk X W u s' := by
  obtain ⟨a, B, H', cls, d, v, cs, rfl, fl, hok, ub, na, os, ag, ch, sd, hE⟩ := c
  obtain ⟨G, yes, no⟩ := restrict s'.heap fun b => (B.get? b).isSome || decide (b ∈ frs X.stack)
  have stays : B.StaysIn s'.heap := fl.1
  have ofB : ∀ b o, B.get? b = some o → G.get? b = some o := fun b o e => (yes b (by simp [e])).trans (stays b o e)
  have ofF : ∀ b, b ∈ frs X.stack → G.get? b = s'.heap.get? b := fun b hb => yes b (by simp [hb])
  have inG : ∀ b o, G.get? b = some o → s'.heap.get? b = some o ∧ ((B.get? b).isSome = true ∨ b ∈ frs X.stack) := fun b o e => by
    cases q : ((B.get? b).isSome || decide (b ∈ frs X.stack)) with
    | false =>
      rw [no b q] at e
      cases e
    | true =>
      rw [yes b q] at e
      exact ⟨e, by simpa [Bool.or_eq_true] using q⟩
  refine ⟨a, B, { s with heap := G, gens := s'.gens, drawn := s'.drawn, toks := s'.toks }, pins, σ, H', cls, d, v, cs, rfl, ?_, fun b o e hb => ?_, Heap.UpToSlots.of_keeps fun b o e => (inG b o e).1, .inr (.inl fl), na, os, ag, ch, sd, hW _ _ _ hE⟩
  · refine I.call (ch := []) ⟨fun b o e n hb _ => ofB b o (ub.keep b o e n hb), fun b o e n hb _ => ?_, fun b o e n _ => ub.free b o e n, fun b o e _ => ?_, ub.tups, ub.frzs, ub.tbls⟩ (hok.kept ofB) ag (fun _ z => nomatch z)
    · obtain ⟨sl, q⟩ := ub.slot b o e hb
      exact ⟨sl, (ofF b hb).trans q⟩
    · by_cases hb : b ∈ frs X.stack
      · obtain ⟨sl, q⟩ := ub.slot b o e hb
        exact ⟨_, (ofF b hb).trans q⟩
      · obtain ⟨o', q⟩ := ub.there b o e hb
        exact ⟨o', ofB b o' q⟩
  · obtain ⟨e', h⟩ := inG b o e
    rcases h with h | h
    · obtain ⟨o', q⟩ := Option.isSome_iff_exists.mp h
      have z := stays b o' q
      rw [e'] at z
      cases z
      exact q
    · exact absurd h hb
/-- a new exception is in our air -/
theorem XEk.new {a : Addr} {oe : Obj} {vs : Array Value} {cls : Value} {d : Option Addr} {v : Value} {cs : List Pin} (I : Inv X pins σ H sI) (k : ∀ b o, sI.heap.get? b = some o → s'.heap.get? b = some o) (hne : sI.heap.get? a = none) (he : s'.heap.get? a = some oe)
    (hz : Zk cls d v oe) (hd : oe.data = .fields vs) (h1 : vs[1]? = some .none) (na : H a = none) (os : s'.os = sI.os) (ag : AllBare s'.gens) (ch : Chn cs v) (sd : ∀ p ∈ cs, sI.heap.get? p.1 = some p.2 ∧ H p.1 = none ∧ p.1 ∉ frs X.stack) (w : W cls d σ H) : XEk X W (.ref a) s' := by
  have out : ∀ b, sI.heap.get? b = none → (PySem.W.hideAll sI.heap (frs X.stack)).get? b = none := fun b hb => by
    cases q : (PySem.W.hideAll sI.heap (frs X.stack)).get? b with
    | none => rfl
    | some o =>
      have z := PySem.W.of_hideAll _ q
      rw [hb] at z
      cases z
  refine ⟨a, PySem.W.hideAll sI.heap (frs X.stack), sI, pins, σ, H, cls, d, v, cs, rfl, I, fun b o e hb => PySem.W.hideAll_get _ e hb, Heap.UpToSlots.of_keeps k,
    .inl ⟨fun b o e => k b o (PySem.W.of_hideAll _ e), out a hne, ?_, oe, vs, he, hz, hd, h1⟩, na, os, ag, ch, fun p hp => ⟨PySem.W.hideAll_get _ (sd p hp).1 (sd p hp).2.2, (sd p hp).2.1⟩, w⟩
  exact Heap.FunFrames.of_keeps (fun b o e _ => ⟨o, k b o e, rfl⟩) (funFrames_none I.stack fun b hb => PySem.W.hideAll_none _ hb)
/-- it leaves the def -/
theorem XEk.leave (hs : X.stack = X.env :: X.outer) (hf : X.env.frame = some X.env.locals) (hex : X.ex = []) {E₁ : Value → Shared → Prop} (hW : ∀ cls d σ H, W cls d σ H → E cls d H) {u : Value} (x : XEk X W u s') :
    wpAny (model X.prog X.w) X.A (leaving X.env u) (fun _ s'' => CXk X.prog X.w X.outer X.H_0 X.s_0 E u s'') E₁ s' := by
  obtain ⟨a, B, sI, pins, σ, H, cls, d, v, cs, rfl, I, nb, up, sky, na, os, ag, ch, sd, w⟩ := x
  have frames : X.A.frames = some (X.env :: X.outer) := I.ok.frames.trans (by rw [hs])
  have old : ∀ b o, X.s_0.heap.get? b = some o → b ∉ X.fs → b ∉ frs X.stack := fun b o e hb hm => by
    rcases List.mem_cons.mp (I.stkSub b hm) with z | z
    · have lt := Heap.lt_size e
      rw [z] at lt
      exact absurd (Nat.lt_of_lt_of_le lt I.ok.above) (Nat.lt_irrefl _)
    · exact hb z
  have noex : ∀ b, b ∉ X.ex := fun b hb => by
    rw [hex] at hb
    cases hb
  have ground := I.inGround nb
  have fin : ∀ h', HandSPX.FlyingZ B X.outer a (Zk cls d v) h' → s'.heap.UpToSlots h' → CXk X.prog X.w X.outer X.H_0 X.s_0 E (.ref a) { s' with heap := h' } := fun h' fl up' => by
    refine ⟨a, B, H, cls, d, v, cs, rfl, fl, ground, ⟨fun b o e n hb => nb b o (I.base.keep b o e n hb (noex b)) (old b o e hb), fun b o e hb => ?_, fun b o e n => I.base.free b o e n (noex b), fun b o e hb => ?_, I.base.tups, I.base.frzs, I.base.tbls⟩,
      na, os.trans I.os, ag, ch, sd, hW _ _ _ _ w⟩
    · obtain ⟨_, o0, e0, hnf⟩ := I.ok.funs.mem hb
      rw [e] at e0
      cases e0
      obtain ⟨sl, e1⟩ := I.base.slot b o e (I.ok.frf b hb) hb (noex b)
      obtain ⟨sl2, e2⟩ := up b _ e1 hnf
      obtain ⟨sl3, e3⟩ := up' b _ e2 hnf
      exact ⟨sl3, e3⟩
    · obtain ⟨o', e1⟩ := I.base.there b o e (noex b)
      exact ⟨o', nb b o' e1 (old b o e hb)⟩
  rw [hs] at sky
  rcases sky with ⟨hB, hn, hl, oe, vs, he, hz, hd, h1⟩ | fl | hd
  · exact PXN.leaving_firstZ Zk.steady frames hl hf he hB hn hd h1 hz fin
  · exact PXN.leaves_onZ Zk.steady frames hf fl fin
  · exact HandSPX.leaves_heldZ hf hd fin
theorem takesK_of (hs : X.stack = X.env :: X.outer) (hf : X.env.frame = some X.env.locals) (hex : X.ex = []) {E₁ : Value → Shared → Prop}
    (hx : X.xe = fun e s' => wpAny (model X.prog X.w) X.A (leaving X.env e) (fun _ s'' => CXk X.prog X.w X.outer X.H_0 X.s_0 E e s'') E₁ s') : TakesK X (fun cls d _ H => E cls d H) := fun u s' x => by
  rw [hx]
  exact XEk.leave (W := fun cls d _ H => E cls d H) (E := E) hs hf hex (fun _ _ _ _ h => h) x
theorem passAtK (tk : TakesK X W) (σ : St) : PassesAt (CXk X.prog X.w) X σ (WE W σ) := fun _ _ _ e s' I c => tk e s' (XEk.of_call I (fun _ _ _ h => h) c)
/-- noted: held by this frame -/
theorem Sky.note {M : Model} {A : Around} {E₁ : Value → Shared → Prop} {env : Env} {outer : List Env} {L a : Addr} {Z : Obj → Prop} {Q : Unit → Shared → Prop} (hZ : PXN.Steady1 Z) (hfr : A.frames = some (env :: outer)) (hf : env.frame = some L)
    (x : Sky B (env :: outer) a Z L s.heap) (hQ : ∀ h', HandSPX.HeldZ B (env :: outer) a Z L h' → s.heap.UpToSlots h' → Q () { s with heap := h' }) : wpAny M A (noteFrame (.ref a) env) Q E₁ s := by
  rcases x with ⟨hB, hn, hl, oe, vs, he, hz, hd, h1⟩ | fl | hh
  · exact PXN.look_newZ hZ hfr hl hf he hB hn hd h1 hz hQ
  · exact PXN.looks_onZ hZ hfr hf fl hQ
  · exact HandSPX.againZ hf hh.2.2.2 (hQ s.heap hh (Heap.UpToSlots.refl _))
end
end K98
/-! K98Exc2 -/
set_option Elab.async false
set_option linter.all false
set_option maxRecDepth 100000
set_option maxHeartbeats 4000000
namespace K98
open PySem PySem.Spec PyProof.Rows L2
theorem quiet_unchain (args : Args) : (Code.builtin "proto.unchain" args).quiet = true := Code.quiet_builtin _ (by decide +kernel)
theorem ref_eq_false {x y : Addr} (h : x ≠ y) : (Value.ref x == Value.ref y) = false := by simp [h]
/-- the chain of contexts is gone along: the new exception stands nowhere in it -/
theorem unchain_code {prog : Program} {w : World} {A : Around} {s : Shared} {a : Addr} {R : Result → Shared → Prop} (q : R (.ok (.ret .none)) s) :
    ∀ (r : List Pin) (p : Pin) (ss : List Pin) (sl : Value) (tg : Bool), Chn (p :: r) (.ref p.1) → Chn ss sl → r.length < ss.length → (∀ z ∈ p :: r, s.heap.get? z.1 = some z.2 ∧ z.1 ≠ a) → (∀ z ∈ ss, s.heap.get? z.1 = some z.2) →
      codeAny (model prog w) A (.builtin "proto.unchain" ⟨[.ref a, .ref p.1, sl, .bool tg], []⟩) R s := by
  intro r
  induction r with
  | nil =>
    intro p ss sl tg hp hs hl g1 g2
    obtain ⟨_, vs, hd, v', h2, hv⟩ := hp
    have e : v' = .none := hv
    rw [e] at h2
    refine codeAny_builtin HotX.entry_unchain ?_
    show wpAny _ _ (field (.ref p.1) 2 >>= _) _ _ s
    refine wpAny_bind (wpAny_field (g1 p List.mem_cons_self).1 hd h2 ?_)
    rw [if_pos (show (Value.none == Value.none) = true from rfl)]
    first
    | exact wpAny_bind (wpAny_pure (wpAny_pure q))
    | exact wpAny_pure q
  | cons p' r' ih =>
    intro p ss sl tg hp hs hl g1 g2
    obtain ⟨_, vs, hd, v', h2, hv⟩ := hp
    have e : v' = .ref p'.1 := hv.1
    rw [e] at h2 hv
    have na : p'.1 ≠ a := (g1 p' (List.mem_cons_of_mem _ List.mem_cons_self)).2
    have goR : ∀ z ∈ p' :: r', s.heap.get? z.1 = some z.2 ∧ z.1 ≠ a := fun z hz => g1 z (List.mem_cons_of_mem _ hz)
    cases ss with
    | nil => exact absurd hl (Nat.not_lt_zero _)
    | cons q0 qs =>
      obtain ⟨es, ws, hdq, vq, hq2, hvq⟩ := hs
      have lt0 : r'.length < qs.length := Nat.lt_of_succ_lt_succ hl
      refine codeAny_builtin HotX.entry_unchain ?_
      show wpAny _ _ (field (.ref p.1) 2 >>= _) _ _ s
      refine wpAny_bind (wpAny_field (g1 p List.mem_cons_self).1 hd h2 ?_)
      rw [if_neg (show ¬ (Value.ref p'.1 == Value.none) = true from by simp)]
      try dsimp only
      rw [if_neg (show ¬ (Value.ref p'.1 == Value.ref a) = true from by rw [ref_eq_false na]; exact Bool.false_ne_true)]
      try dsimp only
      by_cases c : (Value.ref p'.1 == sl) = true
      · rw [if_pos c]
        first
        | exact wpAny_bind (wpAny_rule (wpAny_bind (wpAny_pure (wpAny_pure q))))
        | exact wpAny_bind (wpAny_rule (wpAny_pure q))
        | exact wpAny_bind (wpAny_bind (wpAny_rule (wpAny_pure (wpAny_pure q))))
      · rw [if_neg c]
        try dsimp only
        cases tg with
        | true =>
          have gq := g2 q0 List.mem_cons_self
          rw [if_pos rfl, es]
          refine wpAny_bind (wpAny_field gq hdq hq2 ?_)
          exact wpAny_pure ⟨quiet_unchain _, ih p' qs vq (!true) hv hvq lt0 goR fun z hz => g2 z (List.mem_cons_of_mem _ hz)⟩
        | false =>
          rw [if_neg Bool.false_ne_true]
          refine wpAny_bind (wpAny_pure ?_)
          exact wpAny_pure ⟨quiet_unchain _, ih p' (q0 :: qs) sl (!false) hv ⟨es, ws, hdq, vq, hq2, hvq⟩ (Nat.lt_succ_of_lt lt0) goR g2⟩
/-- what is handled at A, with its chain, as it stands -/
def HotK (A : Around) (x1 : Addr) (cs : List Pin) (h : Heap) : Prop := A.handled = some (.ref x1) ∧ Chn cs (.ref x1) ∧ ∀ z ∈ cs, h.get? z.1 = some z.2
theorem HotK.head {A : Around} {x1 : Addr} {cs : List Pin} {h : Heap} (k : HotK A x1 cs h) : ∃ p r, cs = p :: r ∧ p.1 = x1 := by
  obtain ⟨_, c, _⟩ := k
  cases cs with
  | nil => cases (show Value.ref x1 = .none from c)
  | cons p r =>
    have e : Value.ref x1 = .ref p.1 := c.1
    exact ⟨p, r, rfl, (Value.ref.inj e).symm⟩
theorem raiseNew_hotK {prog : Program} {w : World} {A : Around} {E : Value → Shared → Prop} {s : Shared} {α : Type} {a x1 : Addr} {cs : List Pin} {oe : Obj} {vs : Array Value} {Q : α → Shared → Prop} (hot : HotK A x1 cs s.heap) (far : ∀ z ∈ cs, z.1 ≠ a)
    (ha : s.heap.get? a = some oe) (da : oe.data = .fields vs) (hi : 2 < vs.size) (hE : E (.ref a) { s with heap := s.heap.update a (Obj.mapFields (·.setIfInBounds 2 (.ref x1))) }) : wpAny (model prog w) A (raiseNew (.ref a) : Sem α) Q E s := by
  obtain ⟨p, r, rfl, rfl⟩ := hot.head
  obtain ⟨hh, ch, st⟩ := hot
  unfold raiseNew
  refine wpAny_bind (wpAny_handled ?_)
  rw [hh]
  have walked : ∀ {Q1 : Value → Shared → Prop}, Q1 .none s → wpAny (model prog w) A (holding [Value.ref a] (runValue (.builtin "proto.unchain" ⟨[.ref a, .ref p.1, .ref p.1, .bool false], []⟩))) Q1 E s := fun {Q1} q =>
    wpAny_holding (wpAny_runValue (unchain_code (a := a) q r p (p :: r) (.ref p.1) false ch ch (Nat.lt_succ_self _) (fun z hz => ⟨st z hz, far z hz⟩) st))
  have hb : (Value.ref p.1 != Value.ref a) = true := HotX.ref_bne (far p List.mem_cons_self)
  first
  | (show wpAny _ _ (if (Value.ref p.1 != Value.ref a) = true then _ else _) _ _ _
     rw [if_pos hb]
     first
     | exact wpAny_bind (walked (wpAny_bind (HotX.chained ha da hi (wpAny_throw hE))))
     | exact wpAny_bind (wpAny_bind (walked (HotX.chained ha da hi (wpAny_throw hE)))))
  | (refine wpAny_bind ?_
     show wpAny _ _ (if (Value.ref p.1 != Value.ref a) = true then _ else _) _ _ _
     rw [if_pos hb]
     exact wpAny_bind (walked (HotX.chained ha da hi (wpAny_throw hE))))
/-- raise x from None, x a new exception, where another one is handled -/
theorem raise_fromNone {prog : Program} {w : World} {A : Around} {E : Value → Shared → Prop} {env : Env} {s : Shared} {x c : Sem Value} {Q : Flow → Shared → Prop} {x1 : Addr} {cs : List Pin}
    (hcs : ∀ (s : Shared) (Q' : Value → Shared → Prop), Q' .none s → wpAny (model prog w) A c Q' E s)
    (h : wpAny (model prog w) A x (fun v s1 => ∃ a oe vs cls, v = .ref a ∧ s1.heap.get? a = some oe ∧ oe.cls = cls ∧ oe.data = .fields vs ∧ vs[1]? = some .none ∧ 4 < vs.size ∧ (∀ z ∈ cs, z.1 ≠ a) ∧ HotK A x1 cs s1.heap ∧
      PySem.W.Looks (model prog w) s1.heap (isSubtype cls (.type "BaseException")) true ∧ PySem.W.Looks (model prog w) (HotX.noneFrom s1.heap a) (typeOf cls) (.type "type") ∧
      E (.ref a) { s1 with heap := (HotX.noneFrom s1.heap a).update a (Obj.mapFields (·.setIfInBounds 2 (.ref x1))) }) E s) :
    wpAny (model prog w) A (raiseStmt env (some x) (some c)) Q E s := by
  unfold raiseStmt
  dsimp only
  refine wpAny_bind (wpAny_mono h (fun v s1 h1 => ?_) fun _ _ x => x)
  obtain ⟨a, oe, vs, cls, rfl, ha, hcls, hd, hn1, hi, far, hot, isExc, isTy, hE⟩ := h1
  have tyA : PySem.W.Looks (model prog w) s1.heap (typeOf (.ref a)) cls := fun A Q E s k q => wpAny_typeOf_ref (k _ _ ha) (by rw [hcls]; exact q)
  have instA : PySem.W.Looks (model prog w) s1.heap (isInstance (.ref a) (.type "BaseException")) true := tyA.andThen isExc
  have noTy : ∀ {h : Heap} {o : Obj} {us : Array Value} {t : Shared} {Q' : Bool → Shared → Prop}, t.heap.get? a = some o → o.data = .fields us → Q' false t → wpAny (model prog w) A (isType (.ref a)) Q' E t := fun {h o us t Q'} g dd hq => by
    simp only [isType, loadHead]
    refine wpAny_bind (wpAny_loadPart g ?_)
    rw [dd]
    exact wpAny_pure hq
  have d3 := Obj.data_mapFields hd (·.setIfInBounds 3 .none)
  have g3 := Heap.get?_update_self (Obj.mapFields (·.setIfInBounds 3 .none)) ha (Obj.isFreed_of_fields d3)
  obtain ⟨g4, d4⟩ := HotX.noneFrom_at ha hd
  have s3 : 3 < vs.size := by omega
  have s4 : 4 < (vs.setIfInBounds 3 Value.none).size := by rw [HotX.set_size]; exact hi
  have s2 : 2 < ((vs.setIfInBounds 3 Value.none).setIfInBounds 4 (Value.bool true)).size := by rw [HotX.set_size, HotX.set_size]; omega
  have n14 : ((vs.setIfInBounds 3 Value.none).setIfInBounds 4 (Value.bool true))[1]? = some Value.none := HotX.set_other (by decide) (HotX.set_other (by decide) hn1)
  have cls4 : ((oe.mapFields (·.setIfInBounds 3 .none)).mapFields (·.setIfInBounds 4 (.bool true))).cls = cls := by rw [Obj.cls_mapFields, Obj.cls_mapFields]; exact hcls
  have tyA4 : PySem.W.Looks (model prog w) (HotX.noneFrom s1.heap a) (typeOf (.ref a)) cls := fun A Q E s k q => wpAny_typeOf_ref (k _ _ g4) (by rw [cls4]; exact q)
  have hot4 : HotK A x1 cs (HotX.noneFrom s1.heap a) := ⟨hot.1, hot.2.1, fun z hz => (HotX.noneFrom_other (Ne.symm (far z hz))).trans (hot.2.2 z hz)⟩
  have tail : wpAny (model prog w) A (do
      let b ← isType (.ref a)
      if b = true then do
        let e ← holding [.ref a] (raisedFor (.ref a) (.ref a))
        setFlight e none
        raiseNew e
      else do
        let e ← raisedInstance (.ref a)
        setFlight e none
        raiseNew e : Sem Flow) Q E { s1 with heap := HotX.noneFrom s1.heap a } := by
    refine wpAny_bind (noTy (h := s1.heap) g4 d4 ?_)
    simp only [Bool.false_eq_true, if_false]
    unfold raisedInstance
    refine wpAny_bind (wpAny_bind (tyA4.here (wpAny_bind (isTy.here ?_))))
    rw [if_pos (beq_self_eq_true _)]
    refine wpAny_pure ?_
    unfold setFlight
    refine wpAny_bind (wpAny_bind (wpAny_field g4 d4 n14 ?_))
    rw [if_neg (by decide)]
    refine wpAny_pure ?_
    exact raiseNew_hotK hot4 far g4 d4 s2 hE
  refine wpAny_bind (wpAny_holding (hcs _ _ (wpAny_bind (wpAny_pure ?_))))
  dsimp only
  refine wpAny_bind (wpAny_holding ?_)
  unfold excFromValue isExcClass
  refine wpAny_bind (wpAny_bind (noTy (h := s1.heap) ha hd ?_))
  simp only [Bool.false_eq_true, if_false]
  refine wpAny_pure ?_
  simp only [Bool.false_eq_true, if_false]
  refine wpAny_bind (instA.here ?_)
  simp only [if_true]
  refine wpAny_pure ?_
  first
  | rw [if_pos (show (Value.none == Value.none) = true from rfl)]
  | simp only [beq_self_eq_true, if_true]
  first
  | refine wpAny_bind (wpAny_pure (wpAny_bind (wpAny_setField ha hd s3 (wpAny_bind (wpAny_setField g3 d3 s4 ?_)))))
  | refine wpAny_bind (wpAny_pure (wpAny_bind (wpAny_bind (wpAny_setField ha hd s3 (wpAny_bind (wpAny_setField g3 d3 s4 ?_))))))
  | refine wpAny_bind (wpAny_bind (wpAny_pure (wpAny_bind (wpAny_setField ha hd s3 (wpAny_setField g3 d3 s4 ?_)))))
  first
  | exact tail
  | (dsimp only; exact tail)
  | (refine wpAny_pure ?_; exact tail)
/-- the context handles an exception whose chain is pinned -/
def HotCx (X : Cx) : Prop := ∃ (x1 : Addr) (cs : List Pin), X.A.handled = some (.ref x1) ∧ Chn cs (.ref x1) ∧ ∀ z ∈ cs, z ∈ X.pn
/-- an expression that makes an exception: with no context, six fields -/
def MkK (X : Cx) (e : Expr) (t : St → Hp → XK → Prop) : Prop := L2H.PMk5 X e t
section
variable {X : Cx} {W : WX} {e : Expr} {t : St → Hp → XK → Prop} {pos : Pos}
theorem Zn.zk {cls : Value} {d : Option Addr} {o : Obj} (h : L2N.Zn cls d o) : Zk cls d .none o := ⟨h.1, h.2.1, h.2.2⟩
/-- raise e where nothing is handled -/
theorem ps_raiseK (hc : X.calm = true) (tk : TakesK X W) (he : L2N.PMk X e t) : PS X (.Raise (some e) none pos) (fun _ σ H => t σ H fun cls d H' => W cls d σ H') := by
  refine ⟨fun pins s σ H D I h => ?_⟩
  show wpAny _ _ (do standAt pos; raiseStmt X.env (some (do let v ← eval e X.env; standAt pos; pure v)) none) _ _ _
  refine wpAny_bind (wpAny_standAt (raise_made (I.ok.hd hc) (wpAny_bind (wpAny_mono (he pins s σ H _ I h) (fun u s1 hu => wpAny_bind (wpAny_standAt (wpAny_pure ?_))) fun _ _ x => x))))
  obtain ⟨a, oe, vs, sI, H', cls, d, rfl, J, k, hne, ha, hz, hd, h1, na, os, ag, r, q⟩ := hu
  obtain ⟨r1, r2⟩ := r (model X.prog X.w) s1.heap (J.kIn.keeps k)
  exact ⟨a, oe, vs, cls, rfl, ha, hz.1, hd, h1, r1, r2, tk _ _ (XEk.new (v := .none) (cs := []) J k hne ha (Zn.zk hz) hd h1 na os ag rfl (fun p hp => absurd hp (by simp)) q)⟩
/-- raise e from None in an except suite -/
theorem ps_raiseNK {j : Nat} {cpos : Pos} (hc : HotCx X) (tk : TakesK X W) (he : L2H.PMk5 X e t) :
    PS X (.Raise (some e) (some (.Constant .none j cpos)) pos) (fun _ σ H => t σ H fun cls d H' => W cls d σ H') := by
  refine ⟨fun pins s σ H D I h => ?_⟩
  obtain ⟨x1, cs, hh, ch, hp⟩ := hc
  show wpAny _ _ (do standAt pos; raiseStmt X.env (some (do let v ← eval e X.env; standAt pos; pure v)) (some (do let v ← eval (.Constant .none j cpos) X.env; standAt pos; pure v))) _ _ _
  refine wpAny_bind (wpAny_standAt (raise_fromNone (x1 := x1) (cs := cs) (fun s2 Q2 q2 => wpAny_bind (Constant_none (wpAny_bind (wpAny_standAt (wpAny_pure q2))))) (wpAny_bind (wpAny_mono (he pins s σ H _ I h) (fun u s1 hu => wpAny_bind (wpAny_standAt (wpAny_pure ?_))) fun _ _ x => x))))
  obtain ⟨⟨a, oe, vs, sI, H', cls, d, rfl, J, k, hne, ha, hz, hd, h1, na, os, ag, r, q⟩, h5⟩ := hu
  have hi : 4 < vs.size := h5 a oe vs rfl ha hd
  have k4 : ∀ b u, sI.heap.get? b = some u → (HotX.noneFrom s1.heap a).get? b = some u := fun b u z => by
    have nab : a ≠ b := fun y => by
      rw [← y, hne] at z
      cases z
    rw [HotX.noneFrom_other nab]
    exact k b u z
  obtain ⟨r1, _⟩ := r (model X.prog X.w) s1.heap (J.kIn.keeps k)
  obtain ⟨_, r2⟩ := r (model X.prog X.w) (HotX.noneFrom s1.heap a) (J.kIn.keeps k4)
  have pins1 : ∀ z ∈ cs, sI.heap.get? z.1 = some z.2 ∧ H' z.1 = none ∧ z.1 ∉ frs X.stack := fun z hz => by
    have y := J.pin z (List.mem_append_left _ (hp z hz))
    exact ⟨y.1, y.2.1, fun hm => (List.mem_cons.mp (J.stkSub z.1 hm)).elim y.2.2.1 y.2.2.2.1⟩
  have far : ∀ z ∈ cs, z.1 ≠ a := fun z hz y => by
    have g := (pins1 z hz).1
    rw [y, hne] at g
    cases g
  obtain ⟨g4, d4⟩ := HotX.noneFrom_at ha hd
  have n12 : (((vs.setIfInBounds 3 Value.none).setIfInBounds 4 (Value.bool true)).setIfInBounds 2 (Value.ref x1))[1]? = some Value.none := HotX.set_other (by decide) (HotX.set_other (by decide) (HotX.set_other (by decide) h1))
  have sz : 2 < ((vs.setIfInBounds 3 Value.none).setIfInBounds 4 (Value.bool true)).size := by rw [HotX.set_size, HotX.set_size]; omega
  refine ⟨a, oe, vs, cls, rfl, ha, hz.1, hd, h1, hi, far, ⟨hh, ch, fun z hz => k _ _ (pins1 z hz).1⟩, r1, r2, tk _ _ (XEk.new (v := .ref x1) (cs := cs) J (fun b u z => ?_) hne (Heap.get?_update_self _ g4 (Obj.isFreed_of_fields (Obj.data_mapFields d4 _)))
    ⟨by rw [Obj.cls_mapFields, Obj.cls_mapFields, Obj.cls_mapFields]; exact hz.1, by rw [HandSPX.dict_mapFields, HandSPX.dict_mapFields, HandSPX.dict_mapFields]; exact hz.2.1, fun ws ew => ?_⟩ (Obj.data_mapFields d4 _) n12 na os ag ch pins1 q)⟩
  · have nab : a ≠ b := fun y => by
      rw [← y, hne] at z
      cases z
    show ((HotX.noneFrom s1.heap a).update a (Obj.mapFields (·.setIfInBounds 2 (.ref x1)))).get? b = some u
    rw [Heap.get?_update_other _ _ nab]
    exact k4 b u z
  · have y := Obj.data_mapFields d4 (·.setIfInBounds 2 (Value.ref x1))
    rw [y] at ew
    have ew2 := Data.fields.inj ew
    rw [← ew2]
    show ((((vs.setIfInBounds 3 Value.none).setIfInBounds 4 (Value.bool true)).setIfInBounds 2 (Value.ref x1)))[2]? = _
    rw [Array.getElem?_setIfInBounds]
    rw [if_pos rfl, if_pos sz]
end
end K98
/-! K98Exc3 -/
set_option Elab.async false
set_option linter.all false
set_option maxRecDepth 100000
set_option maxHeartbeats 4000000
namespace K98
open PySem PySem.Spec PyProof.Rows L2
/-- the exception a over the ground B, its traceback's flight is fl (None: nobody's; a frame's number) -/
def FZ (B : Heap) (l : List Env) (a : Addr) (Z : Obj → Prop) (fl : Value) (h : Heap) : Prop := B.StaysIn h ∧ B.get? a = none ∧ h.FunFrames B l ∧ HandSPX.TracedZ h B a Z fl
/-- the exception a is in flight over s -/
def Fl (X : Cx) (pins : List Pin) (a : Addr) (cls : Value) (d : Option Addr) (v : Value) (cs : List Pin) (f : Value) (σ : St) (H : Hp) (s : Shared) : Prop :=
  ∃ (B : Heap) (sI : Shared), Inv X pins σ H sI ∧ (∀ b o, sI.heap.get? b = some o → b ∉ frs X.stack → B.get? b = some o) ∧ sI.heap.UpToSlots s.heap ∧
    FZ B (X.env :: X.outer) a (Zk cls d v) f s.heap ∧ H a = none ∧ s.os = sI.os ∧ AllBare s.gens ∧ Chn cs v ∧ Stand cs B H
/-- the exception's objects: its record oe, its traceback oT at T, its chain -/
structure Pk (X : Cx) (pins : List Pin) (a : Addr) (cls : Value) (d : Option Addr) (v : Value) (cs : List Pin) (f : Value) (oe : Obj) (T : Addr) (oT : Obj) : Prop where
  z : Zk cls d v oe
  tr : ∃ vs ts : Array Value, oe.data = .fields vs ∧ vs[1]? = some (.ref T) ∧ oT.data = .fields ts ∧ ts[3]? = some f
  ne : T ≠ a
  far0 : ∀ b o, X.s_0.heap.get? b = some o → b ≠ a ∧ b ≠ T
  farP : ∀ p ∈ X.pn ++ pins, p.1 ≠ a ∧ p.1 ≠ T
  farC : ∀ p ∈ cs, p.1 ≠ a ∧ p.1 ≠ T
  ch : Chn cs v
abbrev lot (a : Addr) (oe : Obj) (T : Addr) (oT : Obj) (cs : List Pin) : List Pin := (a, oe) :: (T, oT) :: cs
theorem Chn.fields : ∀ {cs : List Pin} {v : Value}, Chn cs v → ∀ p ∈ cs, ∃ vs : Array Value, p.2.data = .fields vs
  | [], _, _, p, hp => absurd hp (by simp)
  | q :: r, v, h, p, hp => by
    obtain ⟨_, vs, hd, v', _, hr⟩ := h
    rcases List.mem_cons.mp hp with e | hp
    · rw [e]
      exact ⟨vs, hd⟩
    · exact Chn.fields hr p hp
section
variable {X : Cx} {pins : List Pin} {σ : St} {H : Hp} {s : Shared} {a : Addr} {cls v f : Value} {d : Option Addr} {cs : List Pin}
theorem Fl.inv (x : Fl X pins a cls d v cs f σ H s) : Inv X pins σ H s := by
  obtain ⟨B, sI, I, nb, up, fl, _, os, ag, _⟩ := x
  exact I.landed nb fl.1 up os ag
theorem Fl.xe {W : WX} (hs : X.stack = X.env :: X.outer) {s' : Shared} (x : Fl X pins a cls d v cs f σ H s) (up' : s.heap.UpToSlots s'.heap) (os' : s'.os = s.os) (ag' : AllBare s'.gens)
    (sky : ∀ B, FZ B (X.env :: X.outer) a (Zk cls d v) f s.heap → Sky B (X.env :: X.outer) a (Zk cls d v) X.env.locals s'.heap) (w : W cls d σ H) : XEk X W (.ref a) s' := by
  obtain ⟨B, sI, I, nb, up, fl, na, os, ag, ch, sd⟩ := x
  refine ⟨a, B, sI, pins, σ, H, cls, d, v, cs, rfl, I, nb, up.trans up', ?_, na, os'.trans os, ag', ch, sd, w⟩
  rw [hs]
  exact sky B fl
/-- its objects as pins -/
theorem Fl.lot (hs : X.stack = X.env :: X.outer) (hf : X.env.frame = some X.env.locals) (hex : X.ex = []) (x : Fl X pins a cls d v cs f σ H s) :
    ∃ oe T oT, Pk X pins a cls d v cs f oe T oT ∧ ∀ p ∈ lot a oe T oT cs, s.heap.get? p.1 = some p.2 ∧ H p.1 = none ∧ p.1 ≠ X.env.locals ∧ p.1 ∉ X.fs ∧ ∀ u, p.2.data ≠ .cell u := by
  obtain ⟨B, sI, I, nb, up, fl, na, os, ag, ch, sd⟩ := x
  obtain ⟨k1, k2, k3, oe, vs, T, oT, ts, he, hz, hd, hv1, hnT, hTe, hT, hdT, ht3⟩ := id fl
  have nT : H T = none := (I.inGround nb).gone hnT
  have notFr : ∀ (b : Addr) (o : Obj) (fv : Array Value), s.heap.get? b = some o → o.data = .fields fv → b ∉ frs (X.env :: X.outer) := fun b o fv e dd hm => by
    obtain ⟨_, o', e', hnf⟩ := k3.mem hm
    have eo : o = o' := Option.some.inj (e.symm.trans e')
    rw [← eo] at hnf
    exact hnf _ dd
  have far : ∀ b o, sI.heap.get? b = some o → b ≠ a ∧ b ≠ T := fun b o e => by
    by_cases hb : b ∈ frs X.stack
    · rw [hs] at hb
      exact ⟨fun z => notFr a oe vs he hd (by rw [← z]; exact hb), fun z => notFr T oT ts hT hdT (by rw [← z]; exact hb)⟩
    · have q := nb b o e hb
      refine ⟨fun z => ?_, fun z => ?_⟩
      · rw [z, k2] at q
        cases q
      · rw [z, hnT] at q
        cases q
  have locF : X.env.locals ∈ frs (X.env :: X.outer) := List.mem_filterMap.mpr ⟨X.env, List.mem_cons_self, hf⟩
  have fsF : ∀ b, b ∈ X.fs → b ∈ frs (X.env :: X.outer) := fun b hm => by
    obtain ⟨e, he, q⟩ := List.mem_filterMap.mp hm
    exact List.mem_filterMap.mpr ⟨e, List.mem_cons_of_mem _ he, q⟩
  have one : ∀ (p : Pin) (fv : Array Value), s.heap.get? p.1 = some p.2 → p.2.data = .fields fv → H p.1 = none → s.heap.get? p.1 = some p.2 ∧ H p.1 = none ∧ p.1 ≠ X.env.locals ∧ p.1 ∉ X.fs ∧ ∀ u, p.2.data ≠ .cell u := fun p fv g dd n => by
    have nf := notFr p.1 p.2 fv g dd
    exact ⟨g, n, fun z => nf (by rw [z]; exact locF), fun z => nf (fsF _ z), fun u z => by rw [dd] at z; cases z⟩
  refine ⟨oe, T, oT, ⟨hz, ⟨vs, ts, hd, hv1, hdT, ht3⟩, hTe, fun b o e => ?_, fun p hp => far p.1 p.2 (I.pin p hp).1, fun p hp => ?_, ch⟩, fun p hp => ?_⟩
  · obtain ⟨o', q⟩ := I.base.there b o e (by rw [hex]; simp)
    exact far b o' q
  · have q := (sd p hp).1
    refine ⟨fun z => ?_, fun z => ?_⟩
    · rw [z, k2] at q
      cases q
    · rw [z, hnT] at q
      cases q
  · rcases List.mem_cons.mp hp with e | hp
    · rw [e]
      exact one (a, oe) vs he hd na
    · rcases List.mem_cons.mp hp with e | hp
      · rw [e]
        exact one (T, oT) ts hT hdT nT
      · obtain ⟨fv, dd⟩ := ch.fields p hp
        exact one p fv (k1 _ _ (sd p hp).1) dd (sd p hp).2
theorem Inv.addPins (I : Inv X pins σ H s) {l : List Pin} (h : ∀ p ∈ l, s.heap.get? p.1 = some p.2 ∧ H p.1 = none ∧ p.1 ≠ X.env.locals ∧ p.1 ∉ X.fs ∧ ∀ u, p.2.data ≠ .cell u) : Inv X (l ++ pins) σ H s :=
  ⟨I.ok, I.os, I.bare, I.base, I.loc, I.cell, I.free, I.freeC, fun p hp => by
    rcases List.mem_append.mp hp with hp | hp
    · exact I.pin p (List.mem_append_left _ hp)
    · rcases List.mem_append.mp hp with hp | hp
      · exact h p hp
      · exact I.pin p (List.mem_append_right _ hp), I.hok, I.len⟩
/-- behind code that kept the pins -/
theorem Pk.after (hs : X.stack = X.env :: X.outer) {oe : Obj} {T : Addr} {oT : Obj} (k : Pk X pins a cls d v cs f oe T oT) (S : Inv X (K98.lot a oe T oT cs ++ pins) σ H s) : Fl X pins a cls d v cs f σ H s := by
  obtain ⟨vs, ts, hd, hv1, hdT, ht3⟩ := k.tr
  have pn : ∀ p ∈ K98.lot a oe T oT cs, p ∈ X.pn ++ (K98.lot a oe T oT cs ++ pins) := fun p hp => List.mem_append_right _ (List.mem_append_left _ hp)
  have pa := S.pin (a, oe) (pn _ List.mem_cons_self)
  have pT := S.pin (T, oT) (pn _ (List.mem_cons_of_mem _ List.mem_cons_self))
  have J : Inv X pins σ H s := ⟨S.ok, S.os, S.bare, S.base, S.loc, S.cell, S.free, S.freeC, fun p hp => by
    rcases List.mem_append.mp hp with hp | hp
    · exact S.pin p (List.mem_append_left _ hp)
    · exact S.pin p (List.mem_append_right _ (List.mem_append_right _ hp)), S.hok, S.len⟩
  obtain ⟨G, g1, g2⟩ := restrict s.heap fun b => !(decide (b = a) || decide (b = T))
  have gIn : ∀ b o, G.get? b = some o → s.heap.get? b = some o ∧ b ≠ a ∧ b ≠ T := fun b o e => by
    cases q : (!(decide (b = a) || decide (b = T))) with
    | false =>
      rw [g2 b q] at e
      cases e
    | true =>
      rw [g1 b q] at e
      simp only [Bool.not_eq_true', Bool.or_eq_false_iff, decide_eq_false_iff_not] at q
      exact ⟨e, q.1, q.2⟩
  have gOf : ∀ b o, b ≠ a → b ≠ T → s.heap.get? b = some o → G.get? b = some o := fun b o h1 h2 e => (g1 b (by simp [h1, h2])).trans e
  have IG : Inv X pins σ H { s with heap := G } := J.less (fun b o e => (gIn b o e).1) gOf ⟨oe, vs, pa.1, hd⟩ ⟨oT, ts, pT.1, hdT⟩ pa.2.1 pT.2.1 k.far0 k.farP
  have gone : ∀ b, (b = a ∨ b = T) → (PySem.W.hideAll G (frs X.stack)).get? b = none := fun b hb => by
    cases q : (PySem.W.hideAll G (frs X.stack)).get? b with
    | none => rfl
    | some o =>
      obtain ⟨_, n1, n2⟩ := gIn b o (PySem.W.of_hideAll _ q)
      rcases hb with z | z
      · exact absurd z n1
      · exact absurd z n2
  refine ⟨PySem.W.hideAll G (frs X.stack), { s with heap := G }, IG, fun b o e hb => PySem.W.hideAll_get _ e hb, Heap.UpToSlots.of_keeps fun b o e => (gIn b o e).1, ?_, pa.2.1, rfl, J.bare, k.ch, fun p hp => ?_⟩
  · refine ⟨fun b o e => (gIn b o (PySem.W.of_hideAll _ e)).1, gone a (.inl rfl), ?_, oe, vs, T, oT, ts, pa.1, k.z, hd, hv1, gone T (.inr rfl), k.ne, pT.1, hdT, ht3⟩
    have ff := funFrames_none (B := PySem.W.hideAll G (frs X.stack)) J.stack fun b hb => PySem.W.hideAll_none _ hb
    rw [← hs]
    exact ff
  · have y := S.pin p (pn _ (List.mem_cons_of_mem _ (List.mem_cons_of_mem _ hp)))
    have f := k.farC p hp
    exact ⟨PySem.W.hideAll_get _ (gOf _ _ f.1 f.2 y.1) fun hm => (List.mem_cons.mp (J.stkSub p.1 hm)).elim y.2.2.1 y.2.2.2.1, y.2.1⟩
/-- noted and its flight set to none -/
theorem XEk.lands {W : WX} {xe : Value → Shared → Prop} {M : Model} {E₁ : Value → Shared → Prop} {Q : Unit → Shared → Prop} {u : Value} {s' : Shared} (hs : X.stack = X.env :: X.outer) (hf : X.env.frame = some X.env.locals) (ok : X.Ok)
    (xx : XEk (X.tr (X.pn ++ pins) xe) W u s') (hQ : ∀ a cls d v cs σ' H' h3, u = .ref a → Fl X pins a cls d v cs .none σ' H' { s' with heap := h3 } → W cls d σ' H' → Q () { s' with heap := h3 }) :
    wpAny M X.A (noteFrame u X.env) (fun _ s2 => wpAny M X.A (setFlight u none) Q E₁ s2) E₁ s' := by
  obtain ⟨a, B, sI, pins', σ', H', cls, d, v, cs, rfl, J', nb, up, sky, na, os, ag, ch, sd, w⟩ := xx
  have J : Inv X pins σ' H' sI := J'.ofTry ok
  have frames : X.A.frames = some (X.env :: X.outer) := ok.frames.trans (by rw [hs])
  have sky' : Sky B (X.env :: X.outer) a (Zk cls d v) X.env.locals s'.heap := by
    rw [← hs]
    exact sky
  refine L2N.Sky.land Zk.steady frames hf sky' fun h3 fl3 up3 => ?_
  exact hQ a cls d v cs σ' H' h3 rfl ⟨B, sI, J, nb, up.trans up3, fl3, na, os, ag, ch, sd⟩ w
end
end K98
/-! K98Exc4 -/
set_option Elab.async false
set_option linter.all false
set_option maxRecDepth 100000
set_option maxHeartbeats 4000000
namespace K98
open PySem PySem.Spec PyProof.Rows L2
/-- the reading of «try: body / finally: suite» -/
def tFinK (tb : WX → TS) (tf tfs : TS) (Wout : WX) : TS := fun D σ H => tb (wFin tfs Wout) { nx := fun σ1 H1 => tf D σ1 H1, rt := fun _ _ => False } σ H
section
variable {X : Cx} {pins : List Pin} {s : Shared} {body : List Stmt} {f0 : Stmt} {fs : List Stmt} {pos : Pos} {tb : WX → TS} {tf tfs : TS} {Wout : WX}
/-- a pinned exception goes on behind what kept it -/
theorem passOn_of {a : Addr} {cls v : Value} {d : Option Addr} {cs : List Pin} {σ : St} {H : Hp} {what : String} {Q : Flow → Shared → Prop} {E : Value → Shared → Prop} {f : Value} {A : Around} (hs : X.stack = X.env :: X.outer) (hf : X.env.frame = some X.env.locals)
    (fl : Fl X pins a cls d v cs f σ H s) (w : Wout cls d σ H) (hE : ∀ s', XEk X Wout (.ref a) s' → E (.ref a) s') : wpAny (model X.prog X.w) A (PySem.passOn what (.ref a) X.env) Q E s := by
  obtain ⟨B, sI, I, nb, up, fz, na, os, ag, ch, sd⟩ := fl
  obtain ⟨k1, k2, k3, oe, vs, T, oT, ts, he, hz, hd, hv1, hr⟩ := id fz
  unfold PySem.passOn
  refine wpAny_bind (wpAny_field he hd hv1 ?_)
  rw [if_neg (show ¬ ((Value.ref T == Value.none) = true) from by simp)]
  have goOn : wpAny (model X.prog X.w) A (setFlight (.ref a) X.env.frame) (fun _ s7 => wpAny (model X.prog X.w) A (throw (.ref a) : Sem Flow) Q E s7) E s := by
    rw [hf]
    refine HandSPX.setFlight_anyZ k1 k3 fz.2.2.2 fun h7 q1 q2 q3 up7 => wpAny_throw (hE _ ?_)
    exact ⟨a, B, sI, pins, σ, H, cls, d, v, cs, rfl, I, nb, up.trans up7, .inr (.inr (by rw [hs]; exact ⟨q1, k2, q2, q3⟩)), na, os, ag, ch, sd, w⟩
  first
    | exact wpAny_bind (wpAny_pure (wpAny_bind goOn))
    | exact wpAny_bind goOn
/-- the context of an except suite: the state as it is, the exception's lot pinned -/
theorem suite_inv {σ : St} {H : Hp} {L : List Pin} (I : Inv X (L ++ pins) σ H s) (a : Addr) (xe : Value → Shared → Prop) : Inv { X with A := X.A.mark (some (.ref a)), calm := false, pn := L ++ (X.pn ++ pins), xe := xe } [] σ H s :=
  ⟨⟨I.ok.mod, I.ok.kind, I.ok.glob, I.ok.blt, I.ok.above, I.ok.inj, I.ok.has, I.ok.cab, (fun z => absurd (show false = true from z) Bool.false_ne_true), I.ok.frames, I.ok.stk, I.ok.exf, I.ok.bs, I.ok.bsz, I.ok.noex, I.ok.exfs, I.ok.funs, I.ok.frf⟩,
    I.os, I.bare, I.base, I.loc, I.cell, I.free, I.freeC, fun p hp => by
      have hp' : p ∈ L ++ (X.pn ++ pins) := by
        rw [List.append_nil] at hp
        exact hp
      rcases List.mem_append.mp hp' with h | h
      · exact I.pin p (List.mem_append_right _ (List.mem_append_left _ h))
      · rcases List.mem_append.mp h with h | h
        · exact I.pin p (List.mem_append_left _ h)
        · exact I.pin p (List.mem_append_right _ (List.mem_append_right _ h)), I.hok, I.len⟩
theorem inv_suite {σ : St} {H : Hp} {L pn' : List Pin} {a : Addr} {xe : Value → Shared → Prop} (I : Inv { X with A := X.A.mark (some (.ref a)), calm := false, pn := L ++ (X.pn ++ pins), xe := xe } pn' σ H s) (ok : X.Ok) : Inv X (L ++ pins) σ H s :=
  ⟨ok, I.os, I.bare, I.base, I.loc, I.cell, I.free, I.freeC, fun p hp => by
    have hp' : p ∈ L ++ (X.pn ++ pins) := by
      rcases List.mem_append.mp hp with h | h
      · exact List.mem_append_right _ (List.mem_append_left _ h)
      · rcases List.mem_append.mp h with h | h
        · exact List.mem_append_left _ h
        · exact List.mem_append_right _ (List.mem_append_right _ h)
    exact I.pin p (List.mem_append_left _ hp'), I.hok, I.len⟩
theorem Inv.dropPins {σ : St} {H : Hp} {L : List Pin} (I : Inv X (L ++ pins) σ H s) : Inv X pins σ H s :=
  ⟨I.ok, I.os, I.bare, I.base, I.loc, I.cell, I.free, I.freeC, fun p hp => by
    rcases List.mem_append.mp hp with h | h
    · exact I.pin p (List.mem_append_left _ h)
    · exact I.pin p (List.mem_append_right _ (List.mem_append_right _ h)), I.hok, I.len⟩
theorem fin_excK {D : Ends} {u : Value} {s' : Shared} {xe : Value → Shared → Prop} (hs : X.stack = X.env :: X.outer) (hf : X.env.frame = some X.env.locals) (hex : X.ex = []) (ok : X.Ok) (tk : TakesK X Wout)
    (hsu : ∀ (a : Addr) (pn : List Pin), PSs (X.suite a pn) (f0 :: fs) tfs) (xx : XEk (X.tr (X.pn ++ pins) xe) (wFin tfs Wout) u s') :
    wpAny (model X.prog X.w) X.A (noteFrame u X.env) (fun _ s2 => FinallyRaised X.prog X.w X.A X.xe X.env (f0 :: fs) (SP X pins D) u s2) (FinallyRaised X.prog X.w X.A X.xe X.env (f0 :: fs) (SP X pins D)) s' := by
  obtain ⟨a, B, sI, pins', σ', H', cls, d, v, cs, rfl, J', nb, up, sky, na, os, ag, ch, sd, w⟩ := xx
  have J : Inv X pins σ' H' sI := J'.ofTry ok
  have frames : X.A.frames = some (X.env :: X.outer) := ok.frames.trans (by rw [hs])
  have sky' : Sky B (X.env :: X.outer) a (Zk cls d v) X.env.locals s'.heap := by
    rw [← hs]
    exact sky
  refine Sky.note Zk.steady frames hf sky' fun h1 hh1 up1 => ?_
  refine ⟨ref_ne_byPass a, HandSPX.againZ hf hh1.2.2.2 (HandSPX.landsZ hh1 fun h3 fl3 up3 => ?_)⟩
  have fl : Fl X pins a cls d v cs .none σ' H' { s' with heap := h3 } := ⟨B, sI, J, nb, (up.trans up1).trans up3, fl3, na, os, ag, ch, sd⟩
  obtain ⟨oe, T, oT, k, good⟩ := fl.lot hs hf hex
  have S0 := Inv.addPins fl.inv good
  have S3 : Inv (X.suite a (lot a oe T oT cs ++ (X.pn ++ pins))) [] σ' H' { s' with heap := h3 } := suite_inv S0 a _
  refine wpAny_mono ((hsu a (lot a oe T oT cs ++ (X.pn ++ pins))).run [] { s' with heap := h3 } σ' H' { nx := fun σ2 H2 => Wout cls d σ2 H2, rt := fun _ _ => False } S3 w) (fun g s6 hsp => ?_) fun _ _ z => False.elim z
  cases g with
  | ret u =>
    obtain ⟨_, _, _, _, _, q⟩ := hsp
    exact False.elim q
  | brk =>
    obtain ⟨_, _, _, q⟩ := hsp
    exact False.elim q
  | cont =>
    obtain ⟨_, _, _, q⟩ := hsp
    exact False.elim q
  | next =>
    obtain ⟨σ6, H6, S6, q6⟩ := hsp
    have J6 : Inv X (lot a oe T oT cs ++ pins) σ6 H6 s6 := inv_suite S6 ok
    exact passOn_of (Wout := Wout) hs hf (k.after hs J6) q6 fun s7 x7 => tk _ _ x7
theorem ps_finK (hs : X.stack = X.env :: X.outer) (hf : X.env.frame = some X.env.locals) (hex : X.ex = []) (tk : TakesK X Wout)
    (hb : ∀ (W : WX) (pn : List Pin) (xe : Value → Shared → Prop), TakesK (X.tr pn xe) W → PassesOwn (model X.prog X.w) X.A X.env xe → PSs (X.tr pn xe) body (tb W))
    (hfin : PSs X.nox (f0 :: fs) tf) (hsu : ∀ (a : Addr) (pn : List Pin), PSs (X.suite a pn) (f0 :: fs) tfs) : PS X (.Try body [] [] (f0 :: fs) pos) (tFinK tb tf tfs Wout) := by
  refine ⟨fun pins s σ H D I h => ?_⟩
  have ok := I.ok
  refine wpAny_Try_finally ?_
  refine wpAny_mono ((hb (wFin tfs Wout) (X.pn ++ pins) (fun x s1 => wpAny (model X.prog X.w) X.A (noteFrame x X.env) (fun _ s2 => FinallyRaised X.prog X.w X.A X.xe X.env (f0 :: fs) (SP X pins D) x s2) (FinallyRaised X.prog X.w X.A X.xe X.env (f0 :: fs) (SP X pins D)) s1)
    (fun u s' xx => ?_) PassesOwn.looking).run [] s σ H { nx := fun σ1 H1 => tf D σ1 H1, rt := fun _ _ => False } (I.toTry _) h) (fun g s1 z => ?_) (fun x s1 hx => hx)
  · exact fin_excK hs hf hex ok tk hsu xx
  · cases g with
    | ret u =>
      obtain ⟨_, _, _, _, _, q⟩ := z
      exact False.elim q
    | brk =>
      obtain ⟨_, _, _, q⟩ := z
      exact False.elim q
    | cont =>
      obtain ⟨_, _, _, q⟩ := z
      exact False.elim q
    | next =>
      obtain ⟨σ1, H1, J1, q1⟩ := z
      refine wpAny_execs_nil ?_
      refine wpAny_mono (hfin.run pins s1 σ1 H1 D ((J1.ofTry ok).wish _) q1) (fun g2 s2 q2 => ?_) fun _ _ e => False.elim e
      have q3 : SP X pins D g2 s2 := q2.unwish
      cases g2 <;> exact q3
end
/-! ### the first clause takes it: except x as n: suite -/
/-- what the clause wishes: the exception is its own -/
def wFirst (K : PySem.W.Frag) (c : Value) (i : Nat) (ts : Addr → Value → Option Addr → TS) (D : Ends) : WX := fun cls d σ H =>
  PySem.W.exmOne K cls c = some true ∧ ∀ a, H a = none → ts a cls d { nx := fun σ' H' => D.nx (σ'.set i none) H', rt := D.rt, bk := fun σ' H' => D.bk (σ'.set i none) H', ct := fun σ' H' => D.ct (σ'.set i none) H' } (σ.set i (some (.ref a))) H
/-- an exception of the suite, behind which the name is gone -/
def wGone (i : Nat) (Wout : WX) : WX := fun cls d σ H => Wout cls d (σ.set i none) H
section
variable {X : Cx} {x n : Str} {c : Value} {i : Nat} {body suite : List Stmt} {b0 : Stmt} {np pos pos' : Pos} {tb : WX → TS} {ts : Addr → Value → Option Addr → TS} {Wout : WX} {more : List ExceptHandler}
/-- the context of the suite -/
abbrev suiteK (X : Cx) (a : Addr) (pn : List Pin) (xe : Value → Shared → Prop) : Cx := { X with A := X.A.mark (some (.ref a)), calm := false, pn := pn, xe := xe }
theorem ps_try_firstK (hs : X.stack = X.env :: X.outer) (hf : X.env.frame = some X.env.locals) (hex : X.ex = []) (hN : X.N.Nodup) (hi : X.N[i]? = some n) (hln : X.env.kindOf n = some .local) (hc : Names X x c) (hpa : ∀ hd : Option Value, PassesOwnAt (model X.prog X.w) (X.A.mark hd) X.A X.env X.xe) (tk : TakesK X Wout)
    (hb : ∀ (W : WX) (pn : List Pin) (xe : Value → Shared → Prop), TakesK (X.tr pn xe) W → PassesOwn (model X.prog X.w) X.A X.env xe → PSs (X.tr pn xe) body (tb W))
    (hsu : ∀ (a : Addr) (oe : Obj) (cls : Value) (d : Option Addr) (pn : List Pin) (xe : Value → Shared → Prop), Zc cls d oe → (∃ vs, oe.data = .fields vs) → TakesK (suiteK X a ((a, oe) :: pn) xe) (wGone i Wout) → HotCx (suiteK X a ((a, oe) :: pn) xe) →
      PSs (suiteK X a ((a, oe) :: pn) xe) (b0 :: suite) (ts a cls d)) :
    PS X (.Try body (.ExceptHandler (some (.Name x np)) (some n) (b0 :: suite) pos' :: more) [] [] pos) (fun D σ H => tb (wFirst X.K c i ts D) D σ H) := by
  refine ⟨fun pins s σ H D I h => ?_⟩
  have ok := I.ok
  have frames : X.A.frames = some (X.env :: X.outer) := ok.frames.trans (by rw [hs])
  have hloc : Loc X.env.scope n := .inl hln
  refine wpAny_Try_except ?_
  refine wpAny_mono ((hb (wFirst X.K c i ts D) (X.pn ++ pins) (fun e s1 => wpAny (model X.prog X.w) X.A (noteFrame e X.env) (fun _ s2 => wpAny (model X.prog X.w) X.A (setFlight e none) (fun _ s3 =>
    wpAny (model X.prog X.w) X.A (handleBy e X.env (.ExceptHandler (some (.Name x np)) (some n) (b0 :: suite) pos' :: more)) (SP X pins D) X.xe s3) X.xe s2) X.xe s1) (fun u s' xx => ?_) PassesOwn.looking).run [] s σ H D (I.toTry _) h) (fun f s1 hsp => ?_) (fun e s1 he => he)
  · refine XEk.lands hs hf ok xx fun a cls d v cs σ' H' h3 eu fl w => ?_
    subst eu
    obtain ⟨own, run⟩ := w
    have na : H' a = none := by
      obtain ⟨_, _, _, _, _, _, n, _⟩ := fl
      exact n
    obtain ⟨oe, T, oT, k, good⟩ := fl.lot hs hf hex
    have S0 := Inv.addPins fl.inv good
    have SS : ∀ xe, Inv (suiteK X a (lot a oe T oT cs ++ (X.pn ++ pins)) xe) [] σ' H' { s' with heap := h3 } := fun xe => suite_inv S0 a xe
    have ga : h3.get? a = some oe := (good (a, oe) List.mem_cons_self).1
    refine wpAny_handleBy_cons (codeAny_handlers_test ?_) (by intro q; cases q)
    have LT : PySem.W.Looks (model X.prog X.w) h3 (typeOf (.ref a)) cls := fun A Q E s k' q => wpAny_typeOf_ref (k' _ _ ga) (by rw [k.z.1]; exact q)
    have LM := PySem.W.exm_one (M := model X.prog X.w) (fl.inv.kIn) LT own
    have test : ∀ {Q : Value → Shared → Prop} {E : Value → Shared → Prop}, Q c { s' with heap := h3 } → wpAny (model X.prog X.w) (X.A.mark (some (.ref a))) (eval (.Name x np) X.env) Q E { s' with heap := h3 } := fun {Q E} q => by
      obtain ⟨hg, hdbg, hm | ⟨hm, hv, hnn⟩⟩ := hc
      · exact ld_glob (X := suiteK X a (lot a oe T oT cs ++ (X.pn ++ pins)) X.xe) (SS X.xe) hg hm q hdbg
      · exact ld_blt (X := suiteK X a (lot a oe T oT cs ++ (X.pn ++ pins)) X.xe) (SS X.xe) hg hm hv q hnn hdbg
    refine test (LM.here ?_)
    refine codeAny_handlers_suite_as ?_
    -- the flight is none already
    obtain ⟨B, sI, J, nb, up, fz, _, os, ag, ch, sd⟩ := id fl
    refine HandSPX.lands_againZ (show HandSPX.FlyingZ B (X.env :: X.outer) a (Zk cls d v) h3 from fz) fun h4 fl4 up4 => ?_
    have f4 : Fl X pins a cls d v cs .none σ' H' { s' with heap := h4 } := ⟨B, sI, J, nb, up.trans up4, fl4, na, os, ag, ch, sd⟩
    obtain ⟨oe4, T4, oT4, k4, good4⟩ := f4.lot hs hf hex
    have S4 := Inv.addPins f4.inv good4
    have hdat : ∃ vs : Array Value, oe4.data = .fields vs := by
      obtain ⟨vs, _, e, _⟩ := k4.tr
      exact ⟨vs, e⟩
    refine store_ok (X := suiteK X a (lot a oe4 T4 oT4 cs ++ (X.pn ++ pins)) X.xe) (v := .ref a) (suite_inv S4 a X.xe) hN hi hloc rfl (fun s5 S5 => ?_) (.inr hln)
    have S5' : ∀ xe, Inv (suiteK X a (lot a oe4 T4 oT4 cs ++ (X.pn ++ pins)) xe) [] (σ'.set i (some (.ref a))) H' s5 := fun xe => suite_inv (inv_suite S5 ok) a xe
    have hot : ∀ xe, HotCx (suiteK X a (lot a oe4 T4 oT4 cs ++ (X.pn ++ pins)) xe) := fun xe => by
      obtain ⟨vs, hv⟩ := hdat
      refine ⟨a, (a, oe4) :: cs, rfl, ⟨rfl, vs, hv, v, k4.z.2.2 vs hv, ch⟩, fun z hz => ?_⟩
      rcases List.mem_cons.mp hz with e | hz
      · rw [e]
        exact List.mem_cons_self
      · exact List.mem_append_left _ (List.mem_cons_of_mem _ (List.mem_cons_of_mem _ hz))
    refine wpAny_mono ((hsu a oe4 cls d ((T4, oT4) :: cs ++ (X.pn ++ pins)) _ k4.z.zc hdat (fun u6 s6 x6 => ?_) (hot _)).run [] s5 _ H' _ (S5' _) (run a na)) (fun f s6 hsp => ?_) (fun _ _ z => z)
    · -- the suite raised
      obtain ⟨a2, B2, sI2, pn2, σ2, H2, cls2, d2, v2, cs2, rfl, I2, nb2, up2, sky2, na2, os2, ag2, ch2, sd2, w2⟩ := x6
      have J2 : Inv X pins σ2 H2 sI2 := Inv.dropPins (inv_suite (show Inv (suiteK X a (lot a oe4 T4 oT4 cs ++ (X.pn ++ pins)) _) pn2 σ2 H2 sI2 from I2) ok)
      have sky2' : Sky B2 (X.env :: X.outer) a2 (Zk cls2 d2 v2) X.env.locals s6.heap := by
        rw [← hs]
        exact sky2
      show wpAny (model X.prog X.w) (X.A.mark (some (.ref a))) (noteFrame (.ref a2) X.env) _ _ _
      refine Sky.note Zk.steady frames hf sky2' fun h7 hh7 up7 => ?_
      have f7 : Fl X pins a2 cls2 d2 v2 cs2 (rawInt X.env.locals) σ2 H2 { s6 with heap := h7 } := ⟨B2, sI2, J2, nb2, up2.trans up7, hh7, na2, os2, ag2, ch2, sd2⟩
      obtain ⟨oe7, T7, oT7, k7, good7⟩ := f7.lot hs hf hex
      refine gone_ok (Inv.addPins f7.inv good7) hN hi hln fun s8 J8 => ?_
      have f8 := k7.after hs J8
      exact passOn_of (Wout := Wout) hs hf f8 w2 fun s9 x9 => hpa (some (.ref a)) _ _ (tk _ _ x9)
    · have back : ∀ {xe : Value → Shared → Prop} {σ6 : St} {H6 : Hp}, Inv (suiteK X a (lot a oe4 T4 oT4 cs ++ (X.pn ++ pins)) xe) [] σ6 H6 s6 → Inv X pins σ6 H6 s6 := fun {xe σ6 H6} S6 => Inv.dropPins (inv_suite S6 ok)
      cases f with
      | next =>
        obtain ⟨σ6, H6, S6, q6⟩ := hsp
        exact gone_ok (back S6) hN hi hln fun s7 J7 => ⟨_, _, J7, q6⟩
      | brk =>
        obtain ⟨σ6, H6, S6, q6⟩ := hsp
        exact gone_ok (back S6) hN hi hln fun s7 J7 => ⟨_, _, J7, q6⟩
      | cont =>
        obtain ⟨σ6, H6, S6, q6⟩ := hsp
        exact gone_ok (back S6) hN hi hln fun s7 J7 => ⟨_, _, J7, q6⟩
      | ret u =>
        obtain ⟨v6, σ6, H6, S6, r6, q6⟩ := hsp
        exact gone_ok (back S6) hN hi hln fun s7 J7 => ⟨_, _, _, J7, r6, q6⟩
  · cases f with
    | next =>
      obtain ⟨σ', H', J', q⟩ := hsp
      exact wpAny_execs_nil ⟨σ', H', J'.ofTry ok, q⟩
    | brk =>
      obtain ⟨σ', H', J', q⟩ := hsp
      exact ⟨σ', H', J'.ofTry ok, q⟩
    | cont =>
      obtain ⟨σ', H', J', q⟩ := hsp
      exact ⟨σ', H', J'.ofTry ok, q⟩
    | ret u =>
      obtain ⟨v, σ', H', J', r, q⟩ := hsp
      exact ⟨v, σ', H', J'.ofTry ok, r, q⟩
end
end K98
/-! K98Fail -/
set_option Elab.async false
set_option linter.all false
set_option maxRecDepth 100000
set_option maxHeartbeats 4000000
/-! Failed(path): an own exception over BuildError(ValueError) whose __init__ says super().__init__(path); self.path = path. -/
namespace K98
open PySem PySem.W PySem.Calls PyProof.Rows PySem.HandSPX
/-- the text of its __init__: the two statements' places are given -/
def fiA : Arguments := { posonlyargs := [], args := [{ arg := "self", annotation := none, pos := ⟨48, 17, 48, 21⟩ }, { arg := "path", annotation := none, pos := ⟨48, 23, 48, 27⟩ }], vararg := none, kwonlyargs := [], kw_defaults := [], kwarg := none, defaults := [] }
def fiB : List Stmt := [.Expr (.Call (.Attribute (.Call (.Name "super" ⟨49, 8, 49, 13⟩) [] [] ⟨49, 8, 49, 15⟩) "__init__" ⟨49, 8, 49, 24⟩) [.Name "path" ⟨49, 25, 49, 29⟩] [] ⟨49, 8, 49, 30⟩) ⟨49, 8, 49, 30⟩, .Assign [.Attribute (.Name "self" ⟨50, 8, 50, 12⟩) "path" ⟨50, 8, 50, 17⟩] (.Name "path" ⟨50, 20, 50, 24⟩) ⟨50, 8, 50, 24⟩]
def fiS : Scope := { kind := .function, names := [(PySem.Str.ofString "self", .local), (PySem.Str.ofString "path", .local), (PySem.Str.ofString "__class__", .free), (PySem.Str.ofString "super", .globalImplicit)], isGenerator := false, isCoroutine := false, more := [] }
/-- what the written part says of the class at C, its __init__ at fI -/
structure FailT (P : Program) (K : Frag) (C fI : Addr) : Prop where
  cls : ∃ nm q N bs bm sn sub ab col dd k0 k1 k2 k3 k5, K.lookup C = some (excClassObj nm q C N bs bm true sn sub ab col dd k0 k1 k2 k3 k5 "ValueError.__new__") ∧ refsVE bm = true
  sa : findIn K (.ref C) "__setattr__" = some (some (.builtin "object.__setattr__"))
  noP : findIn K (.ref C) "path" = some none
  iC : findIn K (.ref C) "__init__" = some (some (.ref fI))
  tI : typeIn K (.ref fI) = some (.type "function")
  kC : keepIn K (.ref C) = true
  exC : subIn K (.ref C) (.type "BaseException") = some true
  tyC : typeIn K (.ref C) = some (.type "type")
  veC : subIn K (.ref C) (.type "ValueError") = some true
  opq : nsIn K cStatics "thirdparty.any" = some none
  sup : ks_superIn K C C "__init__" = some (some (.builtin "ValueError.__init__"))
  own : mroIn K C (.ref C) = some true
  nos : nsIn K mainGlobals "super" = some none
  top : (P.main.scope.names.lookup ("super" : Str)).isSome = false
  fn : ∃ (oc : Value) (od : Option Addr) (doc pm : Value) (an : Option Addr) (cda cc : Addr) (ct : Value) (osl : Array (Option Value)),
    K.lookup fI = some ⟨oc, od, .func (ksFn "__init__" "Failed.__init__" fiA fiB fiS .none .none doc pm an (.ref cda) ct cc), osl⟩ ∧ codeIn K (.ref cda) "Failed.__init__" = true ∧
    (∃ (ccl : Value) (cdd : Option Addr) (vs : Array Value) (ccs : Array (Option Value)) (file : Str) (tf : Tok), K.lookup cda = some ⟨ccl, cdd, .fields vs, ccs⟩ ∧ vs[2]? = some (.str file tf) ∧ ((P.main.file : Str) == file) = true) ∧
    (∃ (cl : Value) (cld : Option Addr) (csl : Array (Option Value)), K.lookup cc = some ⟨cl, cld, .cell (some (.ref C)), csl⟩)
/-- what __init__ leaves of a fresh exception at x -/
structure FiEnd (h h' : Heap) (x C dx t1 : Addr) (v : Value) : Prop where
  keep : ∀ b o, b ≠ x → h.get? b = some o → h'.get? b = some o
  obj : h'.get? x = some { cls := .ref C, dict := some dx, data := .fields #[.ref t1, .none, .none, .none, .bool false, .none] }
  dbig : h.objs.size ≤ dx
  dne : dx ≠ x
  ns : h'.Ns1 dx (fun y => if y = "path" then some v else none)
/-- a made Failed -/
structure FMade (h h' : Heap) (e C d : Addr) (v : Value) : Prop where
  keep : ∀ b o, h.get? b = some o → h'.get? b = some o
  new : h.objs.size ≤ e
  obj : ∃ t1, h'.get? e = some { cls := .ref C, dict := some d, data := .fields #[.ref t1, .none, .none, .none, .bool false, .none] }
  dbig : h.objs.size ≤ d
  dne : d ≠ e
  ns : h'.Ns1 d (fun y => if y = "path" then some v else none)
theorem one_line (v : Value) : [v].length ≤ sizeLine := by
  rw [sizeLine_eq]
  exact (by decide : 1 ≤ 16777216)
/-- a name of the frame -/
theorem ldF {M : Model} {A : Around} {E : Value → Shared → Prop} {s : Shared} {env : Env} {m : Str → Option Value} {x : Str} {pos : Pos} {v : Value} {Q : Value → Shared → Prop} (hn : s.heap.Ns env.locals m) (hv : m x = some v) (h : Q v s)
    (hk : env.scope.kind = .function := by rfl) (hl : env.kindOf x = some .local := by rfl) (hd : (x == ("__debug__" : Str)) = false := by decide) : wpAny M A (eval (.Name x pos) env) Q E s := wpAny_Name (wpAny_loadName_local hk hl hn hv h) hd
/-- the bound built-in __init__ is called -/
theorem call_bound {prog : Program} {w : World} {A : Around} {E : Value → Shared → Prop} {s : Shared} {u x t0 C : Addr} {rest : List Value} {Q : Value → Shared → Prop} {nm q : Str} {N : Addr} {bs bm : List Value} {hdct : Bool} {sn : List Str} {sub : List Value} {ab : Bool} {col : Option Bool} {dd : Option Addr} {k0 k1 k2 k3 k5 : Option Value}
    (hC : s.heap.get? C = some (excClassObj nm q C N bs bm hdct sn sub ab col dd k0 k1 k2 k3 k5 "ValueError.__new__")) (hx : s.heap.get? x = some (HandSPX.excO C t0)) (hu : s.heap.get? u = some (kxs_mw "ValueError.__init__" x)) (hz : rest.length ≤ sizeLine)
    (hq : ∀ h', (∀ b o, b ≠ x → s.heap.get? b = some o → h'.get? b = some o) → h'.get? x = some (HandSPX.excO C s.heap.objs.size) → Q .none { s with heap := h' }) : wpAny (model prog w) A (call (.ref u) rest) Q E s := by
  obtain ⟨hh, g, d, tk, os⟩ := s
  refine wpAny_call (codeAny_of_tree ?_)
  show wpAny _ A.in1 (callAny (.ref u) ⟨rest, []⟩) _ _ _
  simp only [callAny]
  refine wpAny_bind (wpAny_load hu ?_)
  simp only [kxs_mw, show (Value.type "method-wrapper" == Value.type "method" || Value.type "method-wrapper" == Value.type "builtin_function_or_method" || Value.type "method-wrapper" == Value.type "method-wrapper") = true by decide, if_true]
  refine KFB.if_so (by decide) ?_
  refine wpAny_bind (check_bound_init PySem.F.excBase_ValueError.toExcCallFacts hC hx rfl ?_)
  refine wpAny_bind (wpAny_pure (wpAny_pure ?_))
  refine ⟨plainId_quiet PySem.F.excBase_ValueError.init.plain _, codeAny_builtin PySem.F.excBase_ValueError.initEntry ?_⟩
  exact exc_init_tree (cls := .ref C) (t0 := t0) (dv := none) (c2 := .none) (c3 := .none) (b4 := .bool false) hx hz fun h' k e _ => hq h' k e
section
variable {prog : Program} {w : World} {A : Around} {E : Value → Shared → Prop} {R : Result → Shared → Prop} {s : Shared} {K : Frag} {mg mb : Str → Option Value} {C fI : Addr}
theorem fail_init (T : FailT prog K C fI) {x t0 : Addr} {v : Value} (X : K.In s.heap) (hlim : s.heap.NoLimit) (G : s.heap.Ns mainGlobals mg) (B : s.heap.Ns builtinsNs mb) (hmb : mb "super" = some (.type "super")) (hx : s.heap.get? x = some (HandSPX.excO C t0)) (hnx : K.lookup x = none) (hroom : A.depth < recursionLimit)
    (hq : ∀ h' tk dx t1, FiEnd s.heap h' x C dx t1 v → R (.ok (.ret .none)) { s with heap := h', toks := tk }) :
    codeAny (model prog w) A (.call (.ref fI) ⟨[.ref x, v], []⟩) R s := by
  obtain ⟨oc, od, doc, pm, an, cda, cc, ct, osl, ho, hcd, ⟨ccl, cdd, vs, ccs, file, tf, hcode, hvs, hfile⟩, ⟨cl, cld, csl, hcell⟩⟩ := T.fn
  obtain ⟨nm, q, N, bs, bm, sn, sub, ab, col, dd, k0, k1, k2, k3, k5, hC, hbm⟩ := T.cls
  have hcl : clsIn K C = some { name := nm, bases := bs, mro := .ref C :: bm, ns := N, qualname := q, hasDict := true, slotNames := sn, subclasses := sub, abstract := ab, collection := col, hasDel := false } := by unfold clsIn; rw [hC] <;> rfl
  refine ks_codeAny_call_defAt (fd := ksFn "__init__" "Failed.__init__" fiA fiB fiS .none .none doc pm an (.ref cda) ct cc) (body := fiB) (binds := [("self", .ref x), ("path", v)]) hroom (X _ _ ho) rfl hlim (codeRec_of X hcd) rfl
    (BindsTo.of_eq (by first | rfl | with_unfolding_all rfl)) (show ∀ x ∈ fiS.names, x.2 ≠ .cell from by decide) (fun y hy => ?_) (fun h1 hns kk => ?_)
  · rcases List.mem_cons.mp hy with e | hy
    · rw [e]
      rfl
    · rcases List.mem_cons.mp hy with e | hy
      · rw [e]
        rfl
      · cases hy
  have X1 : K.In h1 := X.keeps kk
  have hx1 := kk _ _ hx
  have Lx : s.heap.objs.size ≠ x := Nat.ne_of_gt (Heap.lt_size hx)
  have lt1 : s.heap.objs.size < h1.objs.size := hns.lt
  have I1 : InstAt h1 x (HandSPX.excO C t0) C none := ⟨hx1, rfl, rfl, trivial⟩
  have hC1 : h1.get? C = some (excClassObj nm q C N bs bm true sn sub ab col dd k0 k1 k2 k3 k5 "ValueError.__new__") := X1 _ _ hC
  -- super()
  refine ks_wpAt_execs_cons (ks_wpAt_Expr_any (ks_wpAt_MethodCall ?_))
  refine ks_wpAt_super_base rfl rfl rfl rfl (X1 _ _ ho) rfl rfl rfl (X1 _ _ hcode) rfl hvs hfile T.top ?_
  refine ks_loadName_global rfl rfl (loadGlobal_builtin (G.keeps kk) (mg_none_of X G T.nos) (B.keeps kk) hmb ⟨rfl, ?_⟩)
  refine wpAny_loadName_free rfl rfl (by rfl) ⟨_, X1 _ _ hcell, rfl⟩ ?_
  refine wpAny_loadName_local rfl rfl hns (by rfl) ?_
  refine ks_wpAny_isType_cls hC1 rfl ⟨rfl, ?_⟩
  refine ks_wpAny_call_super hC1 rfl I1.at_ I1.cls (fun c e => by cases e) (looks_mroIn X1 T.own) (fun h2 e2 k2 => ?_)
  have X2 : K.In h2 := X1.keeps k2
  have hx2 := k2 _ _ hx1
  have I2 : InstAt h2 x (HandSPX.excO C t0) C none := ⟨hx2, rfl, rfl, trivial⟩
  have hI : Looks (model prog w) h2 (isInstance (.ref x) (.type "ValueError")) true := I2.type.andThen (looks_subIn X2 T.veC)
  have hm : alongIn K "__init__" (((.ref C :: bm).dropWhile (· != .ref C)).drop 1) = some (some (.builtin "ValueError.__init__")) := by
    have z := T.sup
    unfold ks_superIn at z
    rw [hcl] at z
    exact z
  refine kxs_getMethod kxs_ValueError e2 (looks_opaque X2 T.opq) (l₀ := .ref C :: bm) (fun A Q E s k q => wpAny_bind ((looks_clsIn X2 hcl) A _ E s k (wpAny_pure q))) rfl X2 hm hI (ks_ne X2 I2 hcl) (by decide) ?_
  -- the bound __init__
  have hu := Heap.get?_push_size h2 (o := kxs_mw "ValueError.__init__" x) rfl
  have k3 : ∀ b o, h1.get? b = some o → (h2.push (kxs_mw "ValueError.__init__" x)).get? b = some o := fun b o e => Heap.get?_push_of_some _ (k2 b o e)
  refine kxs_callWith (i := "ValueError.__init__") (x := x) rfl ?_
  refine evalArgs_plain (Calls.spliced_cons (ldF (hns.keeps k3) (by rfl) ?_))
  refine Calls.spliced_nil ⟨hu, ?_⟩
  refine call_bound (k3 _ _ hC1) (k3 _ _ hx1) hu (one_line v) (fun h4 k4 hx4 => ?_)
  -- self.path = path
  have xne : ∀ b o, h1.get? b = some o → b ≠ x → h4.get? b = some o := fun b o e hb => k4 b o hb (k3 b o e)
  have X4 : K.In h4 := fun a o e => xne a o (X1 a o e) fun z => by
    rw [z, hnx] at e
    cases e
  have hns4 : h4.Ns s.heap.objs.size (fun y => ([("self", Value.ref x), ("path", v)] : List (Str × Value)).reverse.lookup y) := by
    obtain ⟨o, es, ep, hL, r⟩ := hns
    exact ⟨o, es, ep, xne _ _ hL Lx, r⟩
  refine wpAt_of_wpAny ?_
  refine wpAny_execs_cons (plainObj_wpAny_Assign_Attribute ?_)
  refine ldF hns4 (by rfl) (ldF (v := .ref x) hns4 (by rfl) ?_)
  refine set_plain X4 (od := none) ⟨hx4, rfl, rfl, trivial⟩ T.sa ?_
  refine exc_osa X4 hx4 hcl (show refsVE (.ref C :: bm) = true from hbm) rfl T.noP (fun h5 tk5 dx k5' dn dne hx5 hn5 => ?_)
  exact wpAny_execs_nil (hq h5 tk5 dx _ ⟨fun b o hb e => k5' b o hb (xne b o (kk b o e) hb), hx5, Nat.le_trans (Nat.le_of_lt hns4.lt) dn, dne, hn5⟩)
end
end K98
/-! K98Fail2 -/
set_option Elab.async false
set_option linter.all false
set_option maxRecDepth 100000
set_option maxHeartbeats 4000000
namespace K98
open PySem PySem.W PySem.Calls PyProof.Rows PySem.HandSPX
section
variable {prog : Program} {w : World} {A : Around} {E : Value → Shared → Prop} {R : Result → Shared → Prop} {s : Shared} {K : Frag} {mg mb : Str → Option Value} {C fI : Addr}
theorem fail_made (T : FailT prog K C fI) {v : Value} (X : K.In s.heap) (hlim : s.heap.NoLimit) (G : s.heap.Ns mainGlobals mg) (B : s.heap.Ns builtinsNs mb) (hmb : mb "super" = some (.type "super")) (hroom : A.depth + 1 < recursionLimit)
    (hq : ∀ h' tk e d, FMade s.heap h' e C d v → R (.ok (.ret (.ref e))) { s with heap := h', toks := tk }) :
    codeAny (model prog w) A (.call (.ref C) ⟨[v], []⟩) R s := by
  obtain ⟨nm, q, N, bs, bm, sn, sub, ab, col, dd, k0, k1, k2, k3, k5, hC, hbm⟩ := T.cls
  obtain ⟨hp, g, dr, tk, os⟩ := s
  have k : ∀ b o, hp.get? b = some o → ((hp.push (kdv_tup [v])).push (HandSPX.excO C hp.objs.size)).get? b = some o := fun b o e => Heap.get?_push_of_some _ (Heap.get?_push_of_some _ e)
  have hget : ((hp.push (kdv_tup [v])).push (HandSPX.excO C hp.objs.size)).get? (hp.objs.size + 1) = some (HandSPX.excO C hp.objs.size) := by heap_get
  have hnx : K.lookup (hp.objs.size + 1) = none := by
    cases e : K.lookup (hp.objs.size + 1) with
    | none => rfl
    | some o =>
      have z : hp.get? (hp.objs.size + 1) = some o := X _ _ e
      exact absurd (Nat.lt_of_succ_lt (Heap.lt_size z)) (Nat.lt_irrefl _)
  refine call_own F.excBase_ValueError (fun X => refsVE_contains X bm hbm) (X _ _ hC) (looks_findIn X T.iC) (fun self => bind_fn X self T.tI) (one_line v) ?_
  refine fail_init (s := ⟨(hp.push (kdv_tup [v])).push (HandSPX.excO C hp.objs.size), g, dr, tk, os⟩) T (X.keeps k) (hlim.keeps k) (G.keeps k) (B.keeps k) hmb hget hnx ?_ fun h' tk' dx t1 ⟨k', hx, dn, dne, hns⟩ => ?_
  · show A.depth + 1 < recursionLimit
    exact hroom
  · have old : ∀ b o, hp.get? b = some o → h'.get? b = some o := fun b o e => k' b o (Nat.ne_of_lt (Nat.lt_succ_of_lt (Heap.lt_size e))) (k b o e)
    have z : hp.objs.size + 1 + 1 ≤ dx := by
      first
        | (simpa only [Heap.size_push] using dn)
        | exact dn
        | (have q := dn; rw [Heap.size_push, Heap.size_push] at q; exact q)
    exact ⟨rfl, hq h' tk' (hp.objs.size + 1) dx ⟨old, Nat.le_succ _, ⟨_, hx⟩, Nat.le_trans (Nat.le_trans (Nat.le_succ _) (Nat.le_succ _)) z, dne, hns⟩⟩
end
end K98
/-! K98Fail3 -/
set_option Elab.async false
set_option linter.all false
set_option maxRecDepth 100000
set_option maxHeartbeats 4000000
namespace K98
open PySem PySem.Spec PyProof.Rows L2
theorem relO_path {v : V} {v' : Value} (r : RelV v v') (f : Str) : RelO (List.lookup f [(("path" : Str), v)]) (if f = "path" then some v' else none) := by
  by_cases hw : f = "path"
  · subst hw
    rw [if_pos rfl]
    have q : List.lookup ("path" : Str) [(("path" : Str), v)] = some v := by simp [List.lookup]
    rw [q]
    exact r
  · rw [if_neg hw]
    have qw : (f == ("path" : Str)) = false := by simpa using hw
    have q2 : List.lookup f [(("path" : Str), v)] = none := by simp [List.lookup, qw]
    rw [q2]
    trivial
section
variable {X : Cx} {C fI : Addr}
/-- Failed(e) -/
def tMkFail (C : Addr) (ta : TA) : St → Hp → XK → Prop := fun σ H Q => ta σ H fun vs H1 => ∃ v, vs = [v] ∧ ∀ d, H1 d = none → Q (.ref C) (some d) (upd H1 d (.xd [(("path" : Str), v)]))
theorem pmk_fail {a : Expr} {ta : TA} {p pos : Pos} {k : Nat} (T : FailT X.prog X.K C fI) (hm : X.mg "Failed" = some (.ref C)) (hr : L2H.RoomH k X.A) (ha : PA X [a] ta) (hg : Gl X "Failed" := by rfl)
    (he : starEach (a :: []) X.env = (false, eval a X.env) :: starEach [] X.env := by rfl) (hpl : (backTo pos (starEach [] X.env)).any (·.1) = false := by rfl) :
    L2H.PMk5 X (.Call (.Name "Failed" p) [a] [] pos) (tMkFail C ta) := by
  intro pins s σ H Q I h
  refine wpAny_Call_Name_kw (ld_glob I hg hm ?_)
  refine PySem.W.callWith_K (h₀ := X.base) I.ok.mod.kin T.kC (thn (ha.run pos pins s σ H _ I h) fun us s1 hh => ?_) he hpl
  obtain ⟨vs, H1, I1, r1, v, ev, q1⟩ := hh
  subst ev
  refine ⟨I1.kIn, ?_⟩
  cases r1 with
  | cons rv rn =>
    rename_i v' us'
    cases rn
    show wpAny _ _ (call (.ref C) [v']) _ _ _
    have hlim := I1.nolimit
    have hG := I1.ok.mod.glob.keeps I1.bk
    obtain ⟨mb, hB, hmb⟩ := I1.ok.mod.blt
    have hB1 := hB.keeps I1.bk
    have hsup : mb "super" = some (.type "super") := by
      rw [hmb _ (by decide)]
      decide +kernel
    obtain ⟨hp, g, dr, tk, os⟩ := s1
    refine wpAny_call (fail_made T I1.kIn hlim hG hB1 hsup (by have := hr.dp; omega) fun h' tk' e d M => ?_)
    show L2N.MkP X pins σ Q (.ref e) ⟨h', g, dr, tk', os⟩ ∧ L2H.Six (.ref e) ⟨h', g, dr, tk', os⟩
    obtain ⟨t1, hoe⟩ := M.obj
    have hns := M.ns
    obtain ⟨G', g1, g2⟩ := restrict h' fun b => decide (b ≠ e)
    have gk : ∀ b, b ≠ e → G'.get? b = h'.get? b := fun b hb => g1 b (decide_eq_true hb)
    have ge : G'.get? e = none := g2 e (by simp)
    have old : ∀ b o, hp.get? b = some o → G'.get? b = some o := fun b o q => (gk b (Nat.ne_of_lt (Nat.lt_of_lt_of_le (Heap.lt_size q) M.new))).trans (M.keep b o q)
    have ob : ObjOk X.prog X.w (upd H1 d (.xd [(("path" : Str), v)])) G' d (.xd [(("path" : Str), v)]) :=
      ⟨_, hns.at (fun o q => (gk d M.dne).trans q), fun f => relO_path rv f⟩
    have J : Inv X pins σ (upd H1 d (.xd [(("path" : Str), v)])) ⟨G', g, dr, tk', os⟩ := I1.laid (t' := tk') old M.dbig ob
    refine ⟨⟨e, _, _, ⟨G', g, dr, tk', os⟩, _, .ref C, some d, rfl, J, fun b o q => ?_, ge, hoe, ⟨rfl, rfl, fun ws ew => ?_⟩, rfl, rfl, ?_, rfl, I1.bare, raises_own T.exC T.tyC, q1 d (I1.hok.fresh M.dbig)⟩, fun a2 oe2 vs2 ea hg2 hd2 => ?_⟩
    · by_cases hb : b = e
      · have q' : G'.get? b = some o := q
        rw [hb, ge] at q'; cases q'
      · exact (gk b hb).symm.trans q
    · cases ew
      rfl
    · rw [upd_ne (Ne.symm M.dne)]
      exact I1.hok.fresh M.new
    · cases ea
      have hg3 : h'.get? e = some oe2 := hg2
      rw [hoe] at hg3
      cases hg3
      cases hd2
      show (4 : Nat) < 6
      decide
end
end K98
/-! K98Facts2 -/
set_option Elab.async false
set_option linter.all false
set_option maxRecDepth 100000
set_option maxHeartbeats 4000000
namespace K98
open PySem PySem.Spec PyProof.Rows L2
section
variable {K : Fg} {mg : Str → Option Value}
abbrev cSrc (K : Fg) : Addr := He.ga K "Source"
abbrev cPrj (K : Fg) : Addr := He.ga K "Project"
abbrev cSes (K : Fg) : Addr := He.ga K "Session"
abbrev cEng (K : Fg) : Addr := He.ga K "Engine"
abbrev cFail (K : Fg) : Addr := He.ga K "Failed"
theorem TX.p_outputs (T : TX K mg) : PropOf K (cSrc K) "outputs" (pAd K "Source" "outputs") (a_Source_outputs K) := propB_ok (T.extra 0)
theorem TX.p_names (T : TX K mg) : PropOf K (cPrj K) "names" (pAd K "Project" "names") (a_Project_names K) := propB_ok (T.extra 1)
theorem TX.p_project (T : TX K mg) : PropOf K (cSes K) "project" (pAd K "Session" "project") (a_Session_project K) := propB_ok (T.extra 2)
theorem insB_ok {C : Str} {H : Hp} {a dx : Addr} {fs : List (Str × V)} (h : insB K C = true) (cl : Cls K (He.ga K C)) (e : H a = some (.ins (He.ga K C) dx fs)) : TyX K H (.ref a) (.ref (He.ga K C)) := by
  obtain ⟨h1, h⟩ := He.ba h
  obtain ⟨h2, h⟩ := He.ba h
  obtain ⟨h3, h4⟩ := He.ba h
  exact .base (.ins e cl (He.eqO_ok h1) (He.eqO_ok h2) (of_decide_eq_true h3) (of_decide_eq_true h4))
theorem TX.ty_src (T : TX K mg) {H : Hp} {a dx : Addr} {fs : List (Str × V)} (e : H a = some (.ins (cSrc K) dx fs)) : TyX K H (.ref a) (.ref (cSrc K)) := insB_ok (T.extra 3) T.c_Source e
theorem TX.ty_prj (T : TX K mg) {H : Hp} {a dx : Addr} {fs : List (Str × V)} (e : H a = some (.ins (cPrj K) dx fs)) : TyX K H (.ref a) (.ref (cPrj K)) := insB_ok (T.extra 4) T.c_Project e
theorem TX.mro_src (T : TX K mg) : PySem.W.mroIn K (cSrc K) (.type "object") = some true := by
  obtain ⟨_, h⟩ := He.ba (T.extra 3 : insB K "Source" = true)
  obtain ⟨_, h⟩ := He.ba h
  obtain ⟨_, h4⟩ := He.ba h
  exact of_decide_eq_true h4
theorem TX.mro_prj (T : TX K mg) : PySem.W.mroIn K (cPrj K) (.type "object") = some true := by
  obtain ⟨_, h⟩ := He.ba (T.extra 4 : insB K "Project" = true)
  obtain ⟨_, h⟩ := He.ba h
  obtain ⟨_, h4⟩ := He.ba h
  exact of_decide_eq_true h4
theorem TX.ne_src (T : TX K mg) : PySem.W.findIn K (.ref (cSrc K)) "__ne__" = some (some (.builtin "object.__ne__")) := He.eqO_ok (T.extra 5)
theorem TX.ne_prj (T : TX K mg) : PySem.W.findIn K (.ref (cPrj K)) "__ne__" = some (some (.builtin "object.__ne__")) := He.eqO_ok (T.extra 6)
theorem TX.k_ss (T : TX K mg) : PySem.W.kitOne K (.ref (cSrc K)) (.ref (cSrc K)) = some true := of_decide_eq_true (T.extra 7)
theorem TX.k_pp (T : TX K mg) : PySem.W.kitOne K (.ref (cPrj K)) (.ref (cPrj K)) = some true := of_decide_eq_true (T.extra 8)
theorem TX.k_st (T : TX K mg) : PySem.W.kitOne K (.ref (cSrc K)) (.ref (He.ga K "Target")) = some true := of_decide_eq_true (T.extra 9)
theorem TX.k_sm (T : TX K mg) : PySem.W.kitOne K (.ref (cSrc K)) (.ref (He.ga K "Made")) = some false := of_decide_eq_true (T.extra 10)
theorem TX.k_tt (T : TX K mg) {t : String} (h : t ∈ ["NoneType", "bool", "int", "str", "tuple", "list"]) : PySem.W.kitOne K (.type t) (.ref (He.ga K "Target")) = some false :=
  of_decide_eq_true (List.all_eq_true.mp (T.extra 11 : kitTO K "Target" ["NoneType", "bool", "int", "str", "tuple", "list"] = true) t h)
theorem TX.k_s_str (T : TX K mg) : PySem.W.kitOne K (.ref (cSrc K)) (.type "str") = some false := of_decide_eq_true (T.extra 12)
theorem TX.fn_get (T : TX K mg) : PySem.W.fnIn K (a_Project_getitem K) = true := T.extra 15
theorem TX.exm (T : TX K mg) : PySem.W.exmOne K (.ref (cFail K)) (.ref (cFail K)) = some true := of_decide_eq_true (T.extra 16)
theorem TX.xf (T : TX K mg) : XfC K (cFail K) := xfB_ok (T.extra 17)
theorem TX.noPath (T : TX K mg) : PySem.W.findIn K (.ref (cFail K)) "path" = some none := by
  have z : failB K = true := T.extra 18
  obtain ⟨_, z⟩ := He.ba z
  obtain ⟨_, z⟩ := He.ba z
  obtain ⟨h, _⟩ := He.ba z
  exact He.eqO_ok h
theorem sFail_is : defArgs sFail = fiA ∧ defBody sFail = fiB ∧ defScope sFail = fiS := by
  refine ⟨?_, ?_, ?_⟩ <;> rfl
theorem TX.fail (T : TX K mg) : FailT R.prog K (cFail K) (fI K) := by
  have z : failB K = true := T.extra 18
  have zf : failF K = true := T.extra 19
  obtain ⟨h0, z⟩ := He.ba z
  obtain ⟨h1, z⟩ := He.ba z
  obtain ⟨h2, z⟩ := He.ba z
  obtain ⟨h3, z⟩ := He.ba z
  obtain ⟨h4, z⟩ := He.ba z
  obtain ⟨h5, z⟩ := He.ba z
  obtain ⟨h6, z⟩ := He.ba z
  obtain ⟨h7, z⟩ := He.ba z
  obtain ⟨h8, z⟩ := He.ba z
  obtain ⟨h9, z⟩ := He.ba z
  obtain ⟨h10, h11⟩ := He.ba z
  refine { cls := ?_, sa := He.eqO_ok h1, noP := He.eqO_ok h2, iC := He.eqO_ok h3, tI := of_decide_eq_true h4, kC := h5, exC := of_decide_eq_true h6, tyC := of_decide_eq_true h7, veC := of_decide_eq_true h8, opq := He.eqO_ok h9, sup := He.eqO_ok h10, own := of_decide_eq_true h11, nos := ?_, top := ?_, fn := ?_ }
  · cases q : K.lookup (cFail K) with
    | none => rw [q] at h0; cases h0
    | some o =>
      rw [q] at h0
      obtain ⟨oc, od, dt, sl⟩ := o
      split at h0
      · rename_i d cd sl' eo
        cases eo
        split at h0
        · rename_i C' bm s0 s1 s2 s3 n s5 e1 e2
          obtain ⟨g1, h0⟩ := He.ba h0
          obtain ⟨g2, h0⟩ := He.ba h0
          obtain ⟨g3, h0⟩ := He.ba h0
          obtain ⟨g4, g5⟩ := He.ba h0
          have eC := of_decide_eq_true g1
          have en := of_decide_eq_true g2
          obtain ⟨cn, cb, cm, cs, cq, chd, csn, csu, cab, cco, cdl⟩ := cd
          have e1' : cm = .ref C' :: bm := e1
          have g3' : chd = true := g3
          have g4' : cdl = false := by
            have y : (!cdl) = true := g4
            cases cdl
            · rfl
            · cases y
          subst e1' g3' g4' en
          rw [eC]
          obtain ⟨sll⟩ := sl
          have e2' : sll = [s0, s1, s2, s3, some (.builtin "ValueError.__new__"), s5] := e2
          subst e2'
          exact ⟨cn, cq, cs, cb, bm, csn, csu, cab, cco, _, s0, s1, s2, s3, s5, rfl, g5⟩
        · cases h0
      · cases h0
  · obtain ⟨h, _, _, c⟩ := T
    exact He.eqO_ok (c.fact (f := .free "super") (List.mem_of_getElem? (i := 47) rfl))
  · decide +kernel
  · have e : fnC K (fI K) = valI := by
      obtain ⟨h, _, _, c⟩ := T
      exact congrArg (fun z : AlK => z.2.2) c
    obtain ⟨s1, s2, s3⟩ := sFail_is
    unfold fnC at e
    unfold failF at zf
    cases q : K.lookup (fI K) with
    | none => rw [q] at e; cases e
    | some o =>
      rw [q] at e zf
      obtain ⟨oc, od, dt, sl⟩ := o
      cases dt with
      | func fd =>
        obtain ⟨n1, n2, n3, n4, n5, n6, n7, n8, n9, n10, n11, n12, n13, n14, n15⟩ := fd
        have e2 : (some (n1, n2, n3, n4, n5, n6, n7.map (·.1), n15) : FnC) = (some ("__init__", "Failed.__init__", defArgs sFail, .stmts (defBody sFail), defScope sFail, mainGlobals, ["__class__"], builtinsNs) : FnC) := e
        simp only [Option.some.injEq, Prod.mk.injEq] at e2
        obtain ⟨h1, h2, h3, h4, h5, h6, h7, h8⟩ := e2
        rw [s1] at h3
        rw [s2] at h4
        rw [s3] at h5
        subst h1 h2 h3 h4 h5 h6 h8
        have eone : ∃ cc, n7 = [(("__class__" : Str), cc)] := by
          cases n7 with
          | nil => cases h7
          | cons p r =>
            obtain ⟨nm, cc⟩ := p
            have h7' := List.cons.inj h7
            have e1 : nm = "__class__" := h7'.1
            have e2 : r = [] := map_nil_of h7'.2
            subst e1 e2
            exact ⟨cc, rfl⟩
        obtain ⟨cc, eone⟩ := eone
        subst eone
        have key : ∃ cda, n13 = .ref cda ∧ n8 = .none ∧ n9 = .none := by
          cases n13 <;> cases n8 <;> cases n9 <;> first
          | exact ⟨_, rfl, rfl, rfl⟩
          | (cases zf)
        obtain ⟨cda, k1, k2, k3⟩ := key
        subst k1 k2 k3
        obtain ⟨g1, zf⟩ := He.ba (show (PySem.W.codeIn K (.ref cda) "Failed.__init__" && (_ && _)) = true from zf)
        obtain ⟨g2, g3⟩ := He.ba zf
        refine ⟨oc, od, n10, n11, n12, cda, cc, n14, sl, rfl, g1, ?_, ?_⟩
        · cases qc : K.lookup cda with
          | none => rw [qc] at g2; cases g2
          | some ob =>
            rw [qc] at g2
            obtain ⟨b1, b2, b3, b4⟩ := ob
            cases b3 with
            | fields vs =>
              cases qv : vs[2]? with
              | none => simp only [qv] at g2; cases g2
              | some u =>
                simp only [qv] at g2
                cases u with
                | str file tf => exact ⟨b1, b2, vs, b4, file, tf, rfl, qv, of_decide_eq_true g2⟩
                | _ => cases g2
            | _ => cases g2
        · cases qc : K.lookup cc with
          | none => rw [qc] at g3; cases g3
          | some ob =>
            rw [qc] at g3
            obtain ⟨b1, b2, b3, b4⟩ := ob
            cases b3 with
            | cell u =>
              cases u with
              | none => cases g3
              | some u =>
                cases u with
                | ref c =>
                  have ec : c = cFail K := of_decide_eq_true g3
                  subst ec
                  exact ⟨b1, b2, b4, rfl⟩
                | _ => cases g3
            | _ => cases g3
      | _ => cases e
end
end K98
/-! K98Eq -/
set_option Elab.async false
set_option linter.all false
set_option maxRecDepth 100000
set_option maxHeartbeats 4000000
/-! dict == dict where the values' own == is called; == and != by an own __eq__ with both answers. -/
namespace K98
open PySem PySem.Spec PyProof.Rows L2
section
variable {prog : Program} {w : World} {κ : Type} [DecidableEq κ] {knd : KeyKind prog w κ} {A : Around} {E : Value → Shared → Prop} {s : Shared}
/-- what the comparison's answer says -/
def Told (ka kb : List (κ × Value)) (G : Value → Value → Bool → Prop) (r : Bool) : Prop :=
  (r = true → ka.length = kb.length ∧ ∀ p ∈ ka, ∃ y, valueAt kb p.1 = some y ∧ G p.2 y true) ∧
  (r = false → ka.length ≠ kb.length ∨ ∃ p ∈ ka, valueAt kb p.1 = none ∨ ∃ y, valueAt kb p.1 = some y ∧ G p.2 y false)
theorem drop_mem {α : Type} {l : List α} {i : Nat} (h : i < l.length) : l[i] ∈ l := List.getElem_mem h
theorem pairs_dicts {nm : String} {a b : Addr} {oa ob : Obj} {ka kb : List (κ × Value)} {G : Value → Value → Bool → Prop} (J : Shared → Prop) {Q : Bool → Shared → Prop} (na : (a == sysModules) = false) (nb : (b == sysModules) = false)
    (ga : ∀ t, J t → t.heap.get? a = some oa) (gb : ∀ t, J t → t.heap.get? b = some ob) (da : oa.IsDictOf knd ka) (db : ob.IsDictOf knd kb)
    (one : ∀ p ∈ ka, ∀ y, valueAt kb p.1 = some y → ∀ t, J t → wpAny (model prog w) A (eqBool p.2 y) (fun r t' => J t' ∧ G p.2 y r) E t)
    (j0 : J s) (hq : ∀ r t, J t → Told ka kb G r → Q r t) : wpAny (model prog w) A (Builtin.Dict.samePairs nm a b) Q E s := by
  obtain ⟨es, ep, _, dta, kya, pra, _⟩ := id da
  obtain ⟨fs, fp, _, dtb, kyb, prb, _⟩ := id db
  have lenA : ka.length = es.size := (pra.length).symm.trans Array.length_toList
  have lenB : kb.length = fs.size := (prb.length).symm.trans Array.length_toList
  have look : ∀ k, findBy knd.is fs k = valueAt kb k := fun k => by
    have z := prb.find k
    rw [← z]
    clear z prb lenB kyb dtb db
    obtain ⟨m⟩ := fs
    simp [findBy]
  unfold Builtin.Dict.samePairs Builtin.Dict.showsAll
  rw [if_neg (show ¬ ((a == sysModules) = true) from by rw [na]; exact Bool.false_ne_true)]
  rw [if_neg (show ¬ ((b == sysModules) = true) from by rw [nb]; exact Bool.false_ne_true)]
  refine wpAny_bind (wpAny_pure (wpAny_bind (wpAny_pure (wpAny_bind (wpAny_dictEntries (ga _ j0) dta ?_)))))
  dsimp only
  refine wpAny_bind (wpAny_dictEntries (gb _ j0) dtb ?_)
  by_cases same : es.size = fs.size
  · rw [if_neg (by rw [same]; simp)]
    refine wpAny_bind (wpAny_dictEpoch (ga _ j0) dta (wpAny_bind ?_))
    rw [Std.Legacy.Range.forIn_eq_forIn_range']
    simp only [Std.Legacy.Range.size, Nat.sub_zero, Nat.add_sub_cancel, Nat.div_one]
    refine wpAny_forIn_list _
      (fun todo q t => J t ∧ q = (none, ()) ∧ ∃ i, todo = List.range' i (es.size - i) ∧ i ≤ es.size ∧ ∀ j (hj : j < ka.length), j < i → ∃ y, valueAt kb ka[j].1 = some y ∧ G ka[j].2 y true)
      _ ?_ ?_ _ _ ⟨j0, rfl, 0, by simp, Nat.zero_le _, fun j _ h => absurd h (Nat.not_lt_zero _)⟩
    · rintro x todo q t ⟨jt, rfl, i, hr, hi, pre⟩
      have lt : i < es.size := by
        rcases Nat.lt_or_ge i es.size with c | c
        · exact c
        · rw [Nat.sub_eq_zero_of_le c] at hr
          simp at hr
      obtain ⟨rfl, rest⟩ : x = i ∧ todo = List.range' (i + 1) (es.size - (i + 1)) := by
        have z : es.size - i = (es.size - (i + 1)) + 1 := by omega
        rw [z, List.range'_succ] at hr
        injection hr with z1 z2
        exact ⟨z1, z2⟩
      refine wpAny_bind (wpAny_dictEntries (ga _ jt) dta ?_)
      rw [Array.getElem?_eq_getElem lt]
      have lt' : x < ka.length := lenA ▸ lt
      obtain ⟨k, v, kv⟩ : ∃ k v, ka[x] = (k, v) := ⟨_, _, rfl⟩
      have mem : (k, v) ∈ ka := by rw [← kv]; exact List.getElem_mem lt'
      obtain ⟨ky, vl⟩ := pra.get? (i := x) (e := es[x]) (k := k) (v := v) (by rw [Array.getElem?_toList]; exact Array.getElem?_eq_getElem lt) (by rw [List.getElem?_eq_getElem lt', kv])
      obtain ⟨k', ky', hh⟩ := kya es[x] (Array.getElem_mem lt)
      have kk : k' = k := knd.inj _ _ _ ky' ky
      rw [kk] at hh
      show wpAny _ _ (holding [es[x].key, es[x].val] _ >>= _) _ _ _
      rw [hh]
      refine wpAny_bind (wpAny_holding (wpAny_bind (wpAny_dictFind_of ky (gb _ jt) dtb kyb ?_)))
      cases fj : fs.findIdx? fun e => knd.is k e.key with
      | none =>
        have gone : valueAt kb k = none := by rw [← look k, findBy_of_findIdx?, fj]
        refine wpAny_pure ?_
        show wpAny _ _ (if (!false) = true then _ else _) _ _ _
        rw [if_pos (by decide)]
        refine wpAny_pure (wpAny_pure (hq false t jt ⟨(fun z => nomatch z), fun _ => .inr ⟨(k, v), mem, .inl gone⟩⟩))
      | some j =>
        obtain ⟨jlt, _, _⟩ := Array.findIdx?_eq_some_iff_getElem.mp fj
        have there : valueAt kb k = some fs[j].val := by
          rw [← look k, findBy_of_findIdx?, fj]
          simp [Array.getElem?_eq_getElem jlt]
        refine wpAny_bind (wpAny_dictEntries (gb _ jt) dtb ?_)
        rw [Array.getElem?_eq_getElem jlt]
        have run := one (k, v) mem _ there t jt
        rw [vl]
        refine wpAny_holding (wpAny_mono run (fun r t' ⟨jt', g⟩ => ?_) fun _ _ z => z)
        cases r with
        | false =>
          show wpAny _ _ (if (!false) = true then _ else _) _ _ _
          rw [if_pos (by decide)]
          exact wpAny_pure (wpAny_pure (hq false t' jt' ⟨(fun z => nomatch z), fun _ => .inr ⟨(k, v), mem, .inr ⟨_, there, g⟩⟩⟩))
        | true =>
          show wpAny _ _ (if (!true) = true then _ else _) _ _ _
          rw [if_neg (by decide)]
          refine wpAny_bind (wpAny_dictEpoch (ga _ jt') dta ?_)
          rw [if_neg (by simp)]
          refine wpAny_pure ⟨jt', rfl, x + 1, rest, lt, fun j' hj' c => ?_⟩
          rcases Nat.lt_or_ge j' x with c' | c'
          · exact pre j' hj' c'
          · have z : j' = x := by omega
            subst z
            rw [kv]
            exact ⟨_, there, g⟩
    · rintro q t ⟨jt, rfl, i, hr, hi, pre⟩
      have z : i = es.size := by
        rcases Nat.lt_or_ge i es.size with c | c
        · have z : es.size - i = (es.size - (i + 1)) + 1 := by omega
          rw [z, List.range'_succ] at hr
          exact nomatch hr
        · exact Nat.le_antisymm hi c
      refine wpAny_pure (hq true t jt ⟨fun _ => ⟨by rw [lenA, lenB, same], fun p hp => ?_⟩, fun z => nomatch z⟩)
      obtain ⟨j, hj, e⟩ := List.getElem_of_mem hp
      have y := pre j hj (by rw [z, ← lenA]; exact hj)
      rw [e] at y
      exact y
  · rw [if_pos (by simpa using same)]
    exact wpAny_bind (wpAny_rule (wpAny_pure (hq false s j0 ⟨(fun z => nomatch z), fun _ => .inl (by rw [lenA, lenB]; exact same)⟩)))
theorem rc_dicts {a b : Addr} {oa ob : Obj} {ka kb : List (κ × Value)} {G : Value → Value → Bool → Prop} (J : Shared → Prop) {Q : Value → Shared → Prop} (na : (a == sysModules) = false) (nb : (b == sysModules) = false)
    (ga : ∀ t, J t → t.heap.get? a = some oa) (gb : ∀ t, J t → t.heap.get? b = some ob) (da : oa.IsDictOf knd ka) (db : ob.IsDictOf knd kb) (hu : A.units < cLine)
    (one : ∀ p ∈ ka, ∀ y, valueAt kb p.1 = some y → ∀ t, J t → wpAny (model prog w) A.in1 (eqBool p.2 y) (fun r t' => J t' ∧ G p.2 y r) E t)
    (j0 : J s) (hq : ∀ r t, J t → Told ka kb G r → Q (.bool r) t) : wpAny (model prog w) A (compareOp .Eq (.ref a) (.ref b)) Q E s := by
  have ta : s.heap.DictOf knd a ka := Heap.dictOf_iff.mpr ⟨oa, ga _ j0, da⟩
  have tb : s.heap.DictOf knd b kb := Heap.dictOf_iff.mpr ⟨ob, gb _ j0, db⟩
  refine wpAny_richCompare_same_room (op := .Eq) ta.typeIs tb.typeIs PySem.F.slot_dict_eq (GQ.call_here PySem.F.slot_dict_eq ta.typeIs PySem.F.entry_dict_eq (PySem.F.args_dict_eq_2 _ _) ?_) hu
  show wpAny _ _ (Builtin.Dict.dictSlotArgs "__eq__" ⟨[.ref a, .ref b], []⟩ >>= _) _ _ s
  refine wpAny_bind ?_
  unfold Builtin.Dict.dictSlotArgs
  refine wpAny_bind (wpAny_notOrdered_dict ta.typeIs ?_)
  show wpAny _ _ (pure (Value.ref a, Value.ref b)) _ _ s
  refine wpAny_pure (wpAny_bind (wpAny_isInstance (T := "dict") tb.typeIs PySem.F.sub_dict_dict ?_))
  simp only [Bool.not_true, Bool.false_eq_true, if_false]
  refine wpAny_bind (wpAny_pure (wpAny_bind (wpAny_pure ?_)))
  refine wpAny_bind (pairs_dicts J na nb ga gb da db one j0 fun r t jt td => ?_)
  refine wpAny_pure ?_
  have z := hq r t jt td
  cases r <;> exact ⟨(fun y => nomatch y), z⟩
end

/-! ### the layer -/
section
variable {X : Cx} {n : Nat} {D : V → V → Hp → Prop} {G : V → V → Bool → Prop}
/-- == inside a builtin gives what G allows, where D holds; nothing tracked changes -/
def EqB (X : Cx) (n : Nat) (D : V → V → Hp → Prop) (G : V → V → Bool → Prop) : Prop :=
  ∀ (A : Around) (pins : List (Addr × Obj)) (s : Shared) (σ : St) (H : Hp) (x y : V) (u v : Value), Sub X n A → Inv X pins σ H s → RelV x u → RelV y v → D x y H →
    wpAny (model X.prog X.w) A (eqBool u v) (fun r s' => G x y r ∧ Inv X pins σ H s') X.xe s
/-- the same of the rich comparison -/
def RcB (X : Cx) (n : Nat) (D : V → V → Hp → Prop) (G : V → V → Bool → Prop) : Prop :=
  ∀ (A : Around) (pins : List (Addr × Obj)) (s : Shared) (σ : St) (H : Hp) (x y : V) (u v : Value), Sub X n A → Inv X pins σ H s → RelV x u → RelV y v → D x y H →
    wpAny (model X.prog X.w) A (richCompare .Eq u v) (fun r s' => ∃ b, r = .bool b ∧ G x y b ∧ Inv X pins σ H s') X.xe s
theorem RcB.eqB (h : RcB X n D G) (hr : ∀ x y H, D x y H → ∃ a b, x = .ref a ∧ y = .ref b) (hg : ∀ a, G (.ref a) (.ref a) true) : EqB X n D G := by
  intro A pins s σ H x y u v sb I rx ry d
  obtain ⟨a, b, rfl, rfl⟩ := hr _ _ _ d
  cases rx
  cases ry
  by_cases hab : a = b
  · subst hab
    exact SeqAt.EqAt.same (A := A) (s := s) (.ref a) X.prog X.w X.xe _ ⟨hg a, I⟩
  · refine GQ.eqBool_refG hab (wpAny_mono (h A pins s σ H (.ref a) (.ref b) _ _ sb I rfl rfl d) (fun r s' q => ?_) fun _ _ x => x)
    obtain ⟨c, e, g, J⟩ := q
    exact ⟨c, e, g, J⟩
def DFl : V → V → Hp → Prop := fun x y _ => flatV x = true ∧ flatV y = true
def GFl : V → V → Bool → Prop := fun x y r => r = eqV x y
theorem eqB_flat : EqB X n DFl GFl := fun A pins s σ H x y u v sb I rx ry d => eqAt_V (A := A) (s := s) rx ry d.1 d.2 X.prog X.w X.xe _ ⟨rfl, I⟩
/-- instances of the class at C by its own ==, which promises sp -/
def DIn (C : Addr) (sp : Sp) (E : XK) (G : V → V → Bool → Prop) : V → V → Hp → Prop := fun x y H => ∃ a b dx dy fs gs, x = .ref a ∧ y = .ref b ∧ H a = some (.ins C dx fs) ∧ H b = some (.ins C dy gs) ∧
  sp [.ref a, .ref b] H (fun v H' => H' = H ∧ ∃ r, v = .bl r ∧ G x y r) E
theorem run_eq {CX : CXT} {f : Addr} {fd : FuncData} {ps : List Str} {sp : Sp} {E : XK} (F : FnOk X.prog X.w X.K X.mg X.base CX n f fd ps sp) (hb : Binds X.K fd ps []) (hx : Passes CX X E)
    {A : Around} {pins : List (Addr × Obj)} {s : Shared} {σ : St} {H : Hp} {a b : Addr} (sb : Sub X n A) (I : Inv X pins σ H s) (d : sp [.ref a, .ref b] H (fun v H' => H' = H ∧ ∃ r, v = .bl r ∧ G (.ref a) (.ref b) r) E) :
    wpAny (model X.prog X.w) A (call (.ref f) [.ref a, .ref b]) (fun v s' => ∃ r, v = .bool r ∧ G (.ref a) (.ref b) r ∧ Inv X pins σ H s') X.xe s := by
  have e0 : Env0 X.prog X.w X.K X.mg X.base A X.stack s H := by
    have e := I.env0
    exact ⟨by rw [sb.fr]; exact e.frames, e.mod, e.bs, e.bsz, e.funs, e.frf, e.hok, e.bare⟩
  have hl := F.len _ _ _ _ d
  have r2 : Vals [V.ref a, V.ref b] [Value.ref a, Value.ref b] := .cons rfl (.cons rfl .nil)
  refine wpAny_call (codeAny_mono (F.run A X.stack s H ⟨[.ref a, .ref b], []⟩ [.ref a, .ref b] [.ref a, .ref b] _ E sb.room e0 (by
    have := hb s [.ref a, .ref b] I.kIn (by simpa using hl)
    simpa using this) r2 d) fun r s' hq => ?_)
  cases r with
  | error e => exact hx pins σ H s e s' I hq
  | ok fl =>
    cases fl with
    | ret w =>
      obtain ⟨z, H', I', rz, ez, c, ec, g⟩ := I.after hq
      subst ez
      subst ec
      cases rz
      exact ⟨c, rfl, g, I'⟩
    | next => exact False.elim hq
    | brk => exact False.elim hq
    | cont => exact False.elim hq
theorem rcB_ins {CX : CXT} {C f : Addr} {fd : FuncData} {ps : List Str} {sp : Sp} {E : XK} (F : FnOk X.prog X.w X.K X.mg X.base CX n f fd ps sp)
    (hs : PySem.W.findIn X.K (.ref C) "__eq__" = some (some (.ref f))) (hf : PySem.W.isFn X.K (.ref f) = true) (hb : Binds X.K fd ps []) (hx : Passes CX X E) : RcB X n (DIn C sp E G) G := by
  intro A pins s σ H x y u v sb I rx ry d
  obtain ⟨a, b, dx, dy, fs, gs, rfl, rfl, ha, hb', hr⟩ := d
  cases rx
  cases ry
  obtain ⟨mA, J, _⟩ := ins_get I.hok ha
  obtain ⟨mB, J', _⟩ := ins_get I.hok hb'
  obtain ⟨od, J, _⟩ := J.look
  obtain ⟨od', J', _⟩ := J'.look
  obtain ⟨m, hF⟩ := I.fr
  refine PySem.W.cmp_K (op := .Eq) (tb := .ref C) sb.room.units0 hF I.ok.mod.kin J J'.type (by simp [PySem.W.notFirst]) hs hf ?_
  refine wpAny_mono (run_eq F hb hx sb I hr) (fun v s' q => ?_) fun _ _ z => z
  obtain ⟨r, ev, q⟩ := q
  subst ev
  exact ⟨r, rfl, q⟩
/-- x != y by object.__ne__ over the class's own == -/
def rNeIn (C : Addr) (sp : Sp) (E : XK) : R2 := fun x y H Q => ∃ a b dx dy fs gs, x = .ref a ∧ y = .ref b ∧ H a = some (.ins C dx fs) ∧ H b = some (.ins C dy gs) ∧ ∃ G : Bool → Prop,
  sp [.ref a, .ref b] H (fun v H' => H' = H ∧ ∃ r, v = .bl r ∧ G r) E ∧ ∀ r, G r → Q (.bl (!r)) H
theorem op_neIn {CX : CXT} {C f : Addr} {fd : FuncData} {ps : List Str} {sp : Sp} {E : XK} (F : FnOk X.prog X.w X.K X.mg X.base CX n f fd ps sp)
    (hs : PySem.W.findIn X.K (.ref C) "__eq__" = some (some (.ref f))) (hf : PySem.W.isFn X.K (.ref f) = true) (hn : PySem.W.findIn X.K (.ref C) "__ne__" = some (some (.builtin "object.__ne__"))) (hm : PySem.W.mroIn X.K C (.type "object") = some true)
    (hb : Binds X.K fd ps []) (hx : Passes CX X E) (hr : Room (n + 1) X.A) : OpR X (compareOp .NotEq) (rNeIn C sp E) := by
  intro pins s σ H x y u v Q I rx ry h
  obtain ⟨a, b, dx, dy, fs, gs, rfl, rfl, ha, hb', G, hsp, q⟩ := h
  cases rx
  cases ry
  obtain ⟨mA, J, _⟩ := ins_get I.hok ha
  obtain ⟨mB, J', _⟩ := ins_get I.hok hb'
  obtain ⟨od, J, _⟩ := J.look
  obtain ⟨od', J', _⟩ := J'.look
  have KI := I.kIn
  have sb : Sub X n X.A.in1 := ⟨hr.in1, rfl⟩
  have inner : wpAny (model X.prog X.w) X.A.in1 (callSpecialIfBound? (.ref a) "__eq__" [.ref b]) (fun v s' => ∃ r, v = some (.bool r) ∧ G r ∧ Inv X pins σ H s') X.xe s := by
    refine PySem.W.ifBound_K KI J hs hf (wpAny_mono (run_eq (G := fun _ _ r => G r) F hb hx sb I hsp) (fun v s' z => ?_) fun _ _ z => z)
    obtain ⟨r, e, g, I'⟩ := z
    exact ⟨r, by rw [e], g, I'⟩
  have entry : wpAny (model X.prog X.w) X.A.in1 (Builtin.«object.__ne__» ⟨[.ref a, .ref b], []⟩) (fun fin s' => ∃ r, fin = .done (.ret (.bool (!r))) ∧ G r ∧ Inv X pins σ H s') X.xe s := by
    unfold Builtin.«object.__ne__»
    refine wpAny_bind (wpAny_pure ?_)
    dsimp only
    refine wpAny_bind (wpAny_cRoomFor (sb.room.units0) ?_)
    refine wpAny_bind (wpAny_mono inner (fun v s' z => ?_) fun _ _ z => z)
    obtain ⟨r, e, g, I'⟩ := z
    subst e
    dsimp only
    refine wpAny_bind (wpAny_truthy_bool (wpAny_pure ⟨r, rfl, g, I'⟩))
  have called : wpAny (model X.prog X.w) X.A (call (.builtin "object.__ne__") [.ref a, .ref b]) (fun v s' => ∃ r, v = .bool (!r) ∧ G r ∧ Inv X pins σ H s') X.xe s := by
    refine wpAny_call (codeAny_call_builtin PySem.F.cmp_object.ne.plain PySem.F.cmpEntry_ne (PySem.W.check_slot PySem.F.cmpKind_ne PySem.F.cmpSplit_ne (J.type.andThen (PySem.W.looks_mroIn KI hm)) (PySem.F.cmpArgs_ne _ _) ?_))
    refine wpAny_mono entry (fun fin s' z => ?_) fun _ _ z => z
    obtain ⟨r, e, g, I'⟩ := z
    subst e
    exact ⟨r, rfl, g, I'⟩
  have one : wpAny (model X.prog X.w) X.A (tryCompare (.ref a) "__ne__" (.ref b)) (fun v s' => ∃ r, v = some (.bool (!r)) ∧ G r ∧ Inv X pins σ H s') X.xe s := by
    unfold tryCompare
    have sp1 : wpAny (model X.prog X.w) X.A (callSpecialIfBound? (.ref a) "__ne__" [.ref b]) (fun v s' => ∃ r, v = some (.bool (!r)) ∧ G r ∧ Inv X pins σ H s') X.xe s := by
      simp only [callSpecialIfBound?, bindSpecialIfBound?]
      refine wpAny_holding (wpAny_bind (wpAny_bind (wpAny_bind (J.type.here ((PySem.W.looks_findIn KI hn).here ?_)))))
      have fin : wpAny (model X.prog X.w) X.A (call (.builtin "object.__ne__") ([.ref a] ++ [.ref b]) >>= fun v => pure (some v)) (fun v s' => ∃ r, v = some (.bool (!r)) ∧ G r ∧ Inv X pins σ H s') X.xe s := by
        refine wpAny_bind (wpAny_mono called (fun v s' z => wpAny_pure ?_) fun _ _ z => z)
        obtain ⟨r, e, g⟩ := z
        exact ⟨r, by rw [e], g⟩
      refine wpAny_bind (wpAny_askSetting (wpAny_ite ?_))
      split
      · exact wpAny_bind (wpAny_of_eq (PySem.F.cmp_object.ne.bind _) (wpAny_pure (by exact fin)))
      · exact wpAny_tryCatch (wpAny_bind (wpAny_of_eq (PySem.F.cmp_object.ne.bind _) (wpAny_pure (by exact fin))))
    refine wpAny_bind (wpAny_mono sp1 (fun v s' z => ?_) fun _ _ z => z)
    obtain ⟨r, e, g⟩ := z
    subst e
    exact wpAny_pure ⟨r, rfl, g⟩
  have done : ∀ {s' : Shared}, (∀ r, G r → Inv X pins σ H s' → EP X pins σ Q (.bool (!r)) s') := fun r g I' => ⟨.bl (!r), H, I', rfl, q r g⟩
  show wpAny (model X.prog X.w) X.A (richCompare .NotEq (.ref a) (.ref b)) _ _ s
  unfold richCompare
  simp only [oneThing_ref]
  refine wpAny_holding (wpAny_bind (wpAny_cRoomFor hr.units0 ?_))
  refine wpAny_bind (J.type.here (wpAny_bind (J'.type.here ?_)))
  split
  · rename_i q2
    exact absurd q2 (by simp)
  · refine wpAny_bind (wpAny_pure ?_)
    simp only [Bool.false_eq_true, if_false]
    refine wpAny_bind (wpAny_mono one (fun v s' z => ?_) fun _ _ z => z)
    obtain ⟨r, e, g, I'⟩ := z
    subst e
    exact wpAny_pure (done r g I')
/-! ### dict == dict -/
def TellV {κ : Type} [DecidableEq κ] (ks ls : List (κ × V)) (G : V → V → Bool → Prop) (r : Bool) : Prop :=
  (r = true → ks.length = ls.length ∧ ∀ p ∈ ks, ∃ y, valV ls p.1 = some y ∧ G p.2 y true) ∧
  (r = false → ks.length ≠ ls.length ∨ ∃ p ∈ ks, valV ls p.1 = none ∨ ∃ y, valV ls p.1 = some y ∧ G p.2 y false)
def rEqK (D : V → V → Hp → Prop) (G : V → V → Bool → Prop) : R2 := fun x y H Q => ∃ a b ks ls, x = .ref a ∧ y = .ref b ∧ H a = some (.dK ks) ∧ H b = some (.dK ls) ∧
  (∀ p ∈ ks, ∀ y, valV ls p.1 = some y → ∀ oa ob, D p.2 y (upd (upd H a (.frz oa (.dK ks))) b (.frz ob (.dK ls)))) ∧ ∀ r, TellV ks ls G r → Q (.bl r) H
theorem upd_id {H : Hp} {a : Addr} {o : HO} (h : H a = some o) : upd H a o = H := by
  funext b
  by_cases e : b = a
  · rw [e, upd_same, h]
  · rw [upd_ne e]
theorem kv_mem {κ : Type} : ∀ {ks : List (κ × V)} {va : List (κ × Value)}, KV ks va → (∀ q ∈ va, ∃ p ∈ ks, p.1 = q.1 ∧ RelV p.2 q.2) ∧ (∀ p ∈ ks, ∃ q ∈ va, p.1 = q.1 ∧ RelV p.2 q.2)
  | [], _, .nil => ⟨(fun q h => nomatch h), (fun p h => nomatch h)⟩
  | p :: ks, q :: va, .cons r t => by
    obtain ⟨h1, h2⟩ := kv_mem (show KV ks va from t)
    refine ⟨fun y hy => ?_, fun y hy => ?_⟩
    · rcases List.mem_cons.mp hy with e | hy
      · exact ⟨p, List.mem_cons_self, by rw [e]; exact r⟩
      · obtain ⟨z, hz, c⟩ := h1 y hy
        exact ⟨z, List.mem_cons_of_mem _ hz, c⟩
    · rcases List.mem_cons.mp hy with e | hy
      · exact ⟨q, List.mem_cons_self, by rw [e]; exact r⟩
      · obtain ⟨z, hz, c⟩ := h2 y hy
        exact ⟨z, List.mem_cons_of_mem _ hz, c⟩
theorem Told.tell {κ : Type} [DecidableEq κ] {ks ls : List (κ × V)} {va vb : List (κ × Value)} {G' : Value → Value → Bool → Prop} {r : Bool} (ra : KV ks va) (rb : KV ls vb) (ndk : (ks.map (·.1)).Nodup)
    (hg : ∀ p ∈ ks, ∀ y u v c, valV ls p.1 = some y → RelV p.2 u → RelV y v → G' u v c → G p.2 y c) (t : Told va vb G' r) : TellV ks ls G r := by
  have la := ra.length
  have lb := rb.length
  obtain ⟨m1, m2⟩ := kv_mem ra
  refine ⟨fun e => ?_, fun e => ?_⟩
  · obtain ⟨l, h⟩ := t.1 e
    refine ⟨by rw [la, lb, l], fun p hp => ?_⟩
    obtain ⟨q, hq, e1, rv⟩ := m2 p hp
    obtain ⟨y, hy, g⟩ := h q hq
    have rr := rb.val q.1
    rw [hy] at rr
    cases ey : valV ls q.1 with
    | none => rw [ey] at rr; exact rr.elim
    | some z =>
      rw [ey] at rr
      exact ⟨z, by rw [e1, ey], hg p hp z q.2 y true (by rw [e1, ey]) rv rr g⟩
  · rcases t.2 e with l | ⟨q, hq, l⟩
    · exact .inl (by rw [la, lb]; exact l)
    · obtain ⟨p, hp, e1, rv⟩ := m1 q hq
      have rr := rb.val q.1
      refine .inr ⟨p, hp, ?_⟩
      rw [e1]
      rcases l with l | ⟨y, hy, g⟩
      · rw [l] at rr
        cases ey : valV ls q.1 with
        | none => exact .inl rfl
        | some z => rw [ey] at rr; exact rr.elim
      · rw [hy] at rr
        cases ey : valV ls q.1 with
        | none => rw [ey] at rr; exact rr.elim
        | some z =>
          rw [ey] at rr
          exact .inr ⟨z, rfl, hg p hp z q.2 y false (by rw [e1, ey]) rv rr g⟩
/-- what stands at a locked dict -/
theorem frz_dict {pins : List (Addr × Obj)} {s : Shared} {σ : St} {H : Hp} {a : Addr} {oa : Obj} {ks : List (Key × V)} (I : Inv X pins σ H s) (ea : H a = some (.frz oa (.dK ks))) :
    s.heap.get? a = some oa ∧ (a == sysModules) = false ∧ ∃ va, KV ks va ∧ Obj.IsDictOf (mixKind X.prog X.w) oa va ∧ (ks.map (·.1)).Nodup := by
  obtain ⟨g, _, ya, va, ra, da⟩ := (show ObjOk X.prog X.w H s.heap a (.frz oa (.dK ks)) from I.hok a _ ea)
  obtain ⟨o, g2, d⟩ := Heap.dictOf_iff.mp da
  have e : o = oa := Option.some.inj (g2.symm.trans g)
  subst e
  refine ⟨g, ya, va, ra, d, ?_⟩
  obtain ⟨_, _, _, _, _, _, nd⟩ := d
  rw [ra.keys]
  exact nd
theorem op_eqK (h : EqB X n D G) (hr : Room (n + 1) X.A) : OpR X (compareOp .Eq) (rEqK D G) := by
  intro pins s σ H x y u v Q I rx ry hh
  obtain ⟨a, b, ks, ls, rfl, rfl, ea, eb, hd, q⟩ := hh
  cases rx
  cases ry
  -- under the locks
  have under : ∀ (oa ob : Obj) (H' : Hp), H' = upd (upd H a (.frz oa (.dK ks))) b (.frz ob (.dK ls)) → H' a = some (.frz oa (.dK ks)) → H' b = some (.frz ob (.dK ls)) → Inv X pins σ H' s →
      (∀ s', Inv X pins σ H' s' → Inv X pins σ H s') → wpAny (model X.prog X.w) X.A (compareOp .Eq (.ref a) (.ref b)) (EP X pins σ Q) X.xe s := by
    intro oa ob H' eH fa fb I' back
    obtain ⟨_, ya, va, ra, da, nda⟩ := frz_dict I' fa
    obtain ⟨_, yb, vb, rb, db, _⟩ := frz_dict I' fb
    obtain ⟨m1, _⟩ := kv_mem ra
    refine rc_dicts (knd := mixKind X.prog X.w) (G := fun u v c => ∃ x y, RelV x u ∧ RelV y v ∧ G x y c) (fun s' => Inv X pins σ H' s') ya yb (fun t It => (frz_dict It fa).1) (fun t It => (frz_dict It fb).1) da db hr.units0 (fun p hp y hy t It => ?_) I' fun r t It td => ?_
    · obtain ⟨z, hz, e1, rv⟩ := m1 p hp
      have rr := rb.val p.1
      rw [hy] at rr
      cases ey : valV ls p.1 with
      | none => rw [ey] at rr; exact rr.elim
      | some w =>
        rw [ey] at rr
        have dd := hd z hz w (by rw [e1]; exact ey) oa ob
        rw [← eH] at dd
        exact wpAny_mono (h X.A.in1 pins t σ H' z.2 w p.2 y ⟨hr.in1, rfl⟩ It rv rr dd) (fun r t' g => ⟨g.2, z.2, w, rv, rr, g.1⟩) fun _ _ z => z
    · refine ⟨.bl r, H, back t It, rfl, q r (td.tell ra rb nda fun p hp y u v c _ r1 r2 g => ?_)⟩
      obtain ⟨x1, y1, s1, s2, g⟩ := g
      rw [RelV.inj r1 s1, RelV.inj r2 s2]
      exact g
  obtain ⟨oa, I1⟩ := I.lock ea trivial
  by_cases hab : a = b
  · subst hab
    rw [ea] at eb
    cases eb
    refine under oa oa _ rfl (by rw [upd_same]) (by rw [upd_same]) (by rw [upd_upd]; exact I1) fun s' I' => ?_
    rw [upd_upd] at I'
    have z := I'.unlock upd_same (I.nofrz ea trivial)
    rw [upd_upd, upd_id ea] at z
    exact z
  · have eb1 : (upd H a (.frz oa (.dK ks))) b = some (.dK ls) := by rw [upd_ne (Ne.symm hab)]; exact eb
    obtain ⟨ob, I2⟩ := I1.lock eb1 trivial
    refine under oa ob _ rfl (by rw [upd_ne hab, upd_same]) upd_same I2 fun s' I' => ?_
    have z := I'.unlock upd_same (I1.nofrz eb1 trivial)
    rw [upd_upd, upd_id eb1] at z
    have z2 := z.unlock upd_same (I.nofrz ea trivial)
    rw [upd_upd, upd_id ea] at z2
    exact z2
end
end K98
/-! K98Meth -/
set_option Elab.async false
set_option linter.all false
set_option maxRecDepth 100000
set_option maxHeartbeats 4000000
/-! x in o, o[i] by the class's own __contains__, __getitem__; a tuple of a text ahead compared with a tuple of one text. -/
namespace K98
open PySem PySem.Spec PyProof.Rows L2
section
variable {X : Cx} {n : Nat}
theorem run_fn {CX : CXT} {f : Addr} {fd : FuncData} {ps : List Str} {sp : Sp} {E : XK} (F : FnOk X.prog X.w X.K X.mg X.base CX n f fd ps sp) (hb : Binds X.K fd ps []) (hx : Passes CX X E)
    {A : Around} {pins : List (Addr × Obj)} {s : Shared} {σ : St} {H : Hp} {xs : List V} {us : List Value} {Q : VK} (sb : Sub X n A) (I : Inv X pins σ H s) (r : Vals xs us) (d : sp xs H Q E) :
    wpAny (model X.prog X.w) A (call (.ref f) us) (EP X pins σ Q) X.xe s := by
  have e0 : Env0 X.prog X.w X.K X.mg X.base A X.stack s H := by
    have e := I.env0
    exact ⟨by rw [sb.fr]; exact e.frames, e.mod, e.bs, e.bsz, e.funs, e.frf, e.hok, e.bare⟩
  have hl := F.len _ _ _ _ d
  have hl2 : us.length = ps.length := r.length.symm.trans hl
  refine wpAny_call (codeAny_mono (F.run A X.stack s H ⟨us, []⟩ us xs _ E sb.room e0 (by
    have := hb s us I.kIn (by simpa using hl2)
    simpa using this) r d) fun z s' hq => ?_)
  cases z with
  | error e => exact hx pins σ H s e s' I hq
  | ok fl =>
    cases fl with
    | ret w => exact I.after hq
    | next => exact False.elim hq
    | brk => exact False.elim hq
    | cont => exact False.elim hq
/-- v in o by the class's own __contains__ -/
def rInC (C : Addr) (sp : Sp) (E : XK) : R2 := fun x y H Q => ∃ a dx fs, y = .ref a ∧ H a = some (.ins C dx fs) ∧ sp [.ref a, x] H (fun v H' => ∃ r, v = .bl r ∧ Q (.bl r) H') E
theorem op_inC {CX : CXT} {C f : Addr} {fd : FuncData} {ps : List Str} {sp : Sp} {E : XK} (F : FnOk X.prog X.w X.K X.mg X.base CX n f fd ps sp)
    (hs : PySem.W.findIn X.K (.ref C) "__contains__" = some (some (.ref f))) (hf : PySem.W.isFn X.K (.ref f) = true) (hb : Binds X.K fd ps []) (hx : Passes CX X E) (hr : Room n X.A) : OpR X (compareOp .In) (rInC C sp E) := by
  intro pins s σ H x y u v Q I rx ry h
  obtain ⟨a, dx, fs, rfl, ha, d⟩ := h
  cases ry
  obtain ⟨mA, J, _⟩ := ins_get I.hok ha
  obtain ⟨od, J, _⟩ := J.look
  obtain ⟨m, hF⟩ := I.fr
  refine PySem.W.in_K hF I.ok.mod.kin J hs hf (wpAny_mono (run_fn F hb hx ⟨hr, rfl⟩ I (.cons (show RelV (.ref a) (.ref a) from rfl) (.cons rx .nil)) d) (fun v s' z => ?_) fun _ _ z => z)
  obtain ⟨w, H', I', rw, c, ec, q⟩ := z
  subst ec
  cases rw
  exact wpAny_truthy_bool ⟨.bl c, H', I', rfl, q⟩
/-- o[i] by the class's own __getitem__ -/
def rGetC (C : Addr) (sp : Sp) (E : XK) : R2 := fun x y H Q => ∃ a dx fs, x = .ref a ∧ H a = some (.ins C dx fs) ∧ sp [.ref a, y] H Q E
theorem pe_getC {CX : CXT} {C f : Addr} {fd : FuncData} {ps : List Str} {sp : Sp} {E : XK} {a b : Expr} {ta tb : TE} {pos : Pos} (F : FnOk X.prog X.w X.K X.mg X.base CX n f fd ps sp)
    (hs : PySem.W.findIn X.K (.ref C) "__getitem__" = some (some (.ref f))) (hf : PySem.W.isFn X.K (.ref f) = true) (hfn : PySem.W.fnIn X.K f = true) (hb : Binds X.K fd ps []) (hx : Passes CX X E) (hr : Room (n + 1) X.A) (ha : PE X a ta) (hbb : PE X b tb)
    (hsl : ∀ x i, subscripted b true (.ref x) i = runValue (.builtin "lifetime.subscript" ⟨[.ref x, i], []⟩) := by intro _ _; with_unfolding_all rfl) :
    PE X (.Subscript a b pos) (tOp (rGetC C sp E) ta tb) := by
  refine ⟨fun pins s σ H Q I h => ?_⟩
  refine Subscript_ (binT ha hbb I h fun v u s2 x y H2 I2 rx ry q => ?_)
  obtain ⟨o, dx, fs, rfl, ho, d⟩ := q
  cases rx
  obtain ⟨mA, J, _⟩ := ins_get I2.hok ho
  obtain ⟨od, J, _⟩ := J.look
  obtain ⟨m, hF⟩ := I2.fr
  exact PySem.W.sub_K hF I2.ok.mod.kin J hs hfn hf (run_fn F hb hx ⟨hr.in1, rfl⟩ I2 (.cons (show RelV (.ref o) (.ref o) from rfl) (.cons ry .nil)) d) (hsl _ _)
end
section
open PySem.SeqAt
open AutoSeq1 (wpAny_loadPart')
open MeetsSeq MeetsSeq2 MeetsSeq3 SeqRoads2
variable {prog : Program} {w : World} {A : Around} {E : Value → Shared → Prop} {s : Shared}
theorem tup_head {l b : Addr} {u v : Value} {r : List Value} {c : Bool} {n n2 : Nat} {dd dd2 : Option Addr} {sl sl2 : Array (Option Value)} {Q : Fin → Shared → Prop} (he : SeqAt.EqAt A s u v c)
    (hl1 : s.heap.get? l = some { cls := .type "tuple", dict := dd, data := .seq (u :: r).toArray n, slots := sl }) (hb1 : s.heap.get? b = some { cls := .type "tuple", dict := dd2, data := .seq [v].toArray n2, slots := sl2 })
    (hq : Q (.done (.ret (.bool (c && r.isEmpty)))) s) : wpAny (model prog w) A (Builtin.«tuple.__eq__» ⟨[.ref l, .ref b], []⟩) Q E s := by
  have f2 := AutoSeq1.sub_tuple_tuple
  obtain ⟨hp, g, d, tk, os⟩ := s
  have hz : ((u :: r).toArray.toList.zip [v].toArray.toList) = [(u, v)] := by simp
  wp_walk using wpAny_loadPart' hl1, wpAny_loadPart' hb1, wpAny_forIn_list _ (fun rest q s' => s' = ⟨hp, g, d, tk, os⟩ ∧ q.1 = none ∧ (rest = [(u, v)] ∨ (rest = [] ∧ c = true))) _
  case turn =>
    rintro ⟨y, x⟩ rest q s' ⟨rfl, hq1, hr⟩
    rcases hr with hr | ⟨hr, _⟩
    · injection hr with e1 e2
      injection e1 with e3 e4
      subst e3
      subst e4
      refine wpAny_bind (he prog w _ _ ?_)
      cases c with
      | false =>
        wp_walk
        simpa using hq
      | true =>
        wp_walk
        exact ⟨rfl, rfl, .inr ⟨e2, rfl⟩⟩
    · cases hr
  case fin =>
    rintro ⟨q1, q2⟩ s' ⟨rfl, hq1, hr⟩
    simp only at hq1
    subst hq1
    rcases hr with hr | ⟨_, rfl⟩
    · cases hr
    · wp_walk
      cases r with
      | nil => simpa [Builtin.Tuple.tupleCompareSizes] using hq
      | cons x r => simpa [Builtin.Tuple.tupleCompareSizes] using hq
  case h =>
    exact ⟨rfl, rfl, .inl hz⟩
end
section
variable {X : Cx} {n : Nat}
/-- t == (z,) for a tuple t with a text ahead -/
def rEqHead (K : PySem.W.Frag) : R2 := fun x y H Q => ∃ a b z r z', x = .ref a ∧ y = .ref b ∧ SqT K H a (.str z :: r) ∧ SqT K H b [.str z'] ∧ Q (.bl (decide (z = z') && r.isEmpty)) H
theorem op_eqHead (hu : X.A.units < cLine) : OpR X (compareOp .Eq) (rEqHead X.K) := by
  intro pins s σ H x y u v Q I rx ry h
  obtain ⟨a, b, z, r, z', rfl, rfl, ha, hb, q⟩ := h
  cases rx
  cases ry
  obtain ⟨its, ra, ea, za⟩ := I.tuple ha
  obtain ⟨its2, rb, eb, zb⟩ := I.tuple hb
  cases ra with
  | cons r1 rr =>
    rename_i u1 us
    cases rb with
    | cons r2 rr2 =>
      rename_i u2 us2
      cases rr2
      have he := eqAt_V (A := X.A.in1) (s := s) r1 r2 rfl rfl
      obtain ⟨⟨cls, dd, data, sl⟩, ho, hc, n, hd⟩ := id ea
      obtain ⟨⟨cls2, dd2, data2, sl2⟩, ho2, hc2, n2, hd2⟩ := id eb
      simp only at hc hd hc2 hd2
      subst hc hd hc2 hd2
      have el : us.isEmpty = r.isEmpty := by
        cases rr <;> rfl
      refine wpAny_richCompare_same_room (op := .Eq) ⟨_, ho, rfl⟩ ⟨_, ho2, rfl⟩ PySem.F.slot_tuple_eq (GQ.call_here PySem.F.slot_tuple_eq ⟨_, ho, rfl⟩ PySem.F.entry_tuple_eq (PySem.F.args_tuple_eq_2 _ _) ?_) hu
      refine tup_head he ho ho2 ?_
      refine ⟨(fun z => nomatch z), ⟨.bl (decide (z = z') && r.isEmpty), H, I, ?_, q⟩⟩
      rw [el]
      show Value.bool ((z == z') && r.isEmpty) = Value.bool (decide (z = z') && r.isEmpty)
      congr 2
end
end K98
/-! K98Disp -/
set_option Elab.async false
set_option linter.all false
set_option maxRecDepth 100000
set_option maxHeartbeats 4000000
/-! {**d, k: v} -/
namespace K98
open PySem PySem.Spec PyProof.Rows L2
section
variable {prog : Program} {w : World} {κ : Type} [DecidableEq κ] {knd : PySem.KeyKind prog w κ} {A : Around} {E : Value → Shared → Prop} {s : Shared}
theorem put_pairs {d : Addr} {kvs : List (κ × Value)} {k : κ} {key v : Value} {Q : Unit → Shared → Prop} (hkey : knd.is k key = true) (hm : s.heap.DictOf knd d kvs) (hsz : kvs.length ≤ sizeLine)
    (hq : ∀ h', h'.DictOf knd d (stored kvs k v) → Heap.SameBut d s.heap h' → Q () { s with heap := h' }) : wpAny (model prog w) A (dictPut d (knd.hash k) key v) Q E s := by
  obtain ⟨o, es, ep, ho, hc, hd, hk, hp, hn⟩ := hm
  have ez : es.toList.length = es.size := by simp
  have hes : es.size ≤ sizeLine := by rw [← ez, hp.length]; exact hsz
  unfold dictPut
  refine wpAny_bind (wpAny_dictFind_of hkey ho hd hk ?_)
  have ix : (es.findIdx? fun e => knd.is k e.key) = kvs.findIdx? fun kv => decide (kv.1 = k) := by
    rw [← hp.findIdx k]
    obtain ⟨l⟩ := es
    simp
  cases hi : es.findIdx? fun e => knd.is k e.key with
  | some i =>
    refine wpAny_updateDict ho hd (hq _ ⟨_, _, ep, Heap.get?_update_self _ ho (Obj.isFreed_of_dict (Obj.data_mapDict hd _)), hc.mapDict _, Obj.data_mapDict hd _, hk.modify _ _, ?_, ?_⟩ (Heap.SameBut.update ..))
    · rw [stored, if_pos (any_of_findIdx_some (ix ▸ hi))]
      have hl : (es.toList.findIdx? fun e => knd.is k e.key) = some i := by
        rw [← hi]
        obtain ⟨l⟩ := es
        simp
      have z := hp.modify hn hl v
      obtain ⟨l⟩ := es
      simpa using z
    · rw [stored, if_pos (any_of_findIdx_some (ix ▸ hi)), keys_map_store]
      exact hn
  | none =>
    have out : k ∉ kvs.map (·.1) := not_mem_of_findIdx_none (ix ▸ hi)
    have no : ¬ (kvs.any fun kv => decide (kv.1 = k)) = true := by
      rw [List.any_eq_true]
      rintro ⟨kv, hkv, he⟩
      exact out (List.mem_map.mpr ⟨kv, hkv, of_decide_eq_true he⟩)
    refine wpAny_updateDictKeys (hz := hes) ho hd (hq _ ⟨_, _, ep + 1, Heap.get?_update_self _ ho (Obj.isFreed_of_dict (Obj.data_mapDictKeys hd _)), hc.mapDictKeys _, Obj.data_mapDictKeys hd _, hk.push hkey _, ?_, ?_⟩ (Heap.SameBut.update ..))
    · rw [stored, if_neg no]
      have z := hp.append hkey (knd.hash k) v
      obtain ⟨l⟩ := es
      simpa using z
    · rw [stored, if_neg no, List.map_append, List.nodup_append]
      refine ⟨hn, by simp, fun a ha b hb => ?_⟩
      simp only [List.map_cons, List.map_nil, List.mem_singleton] at hb
      subst hb
      exact fun e => out (e ▸ ha)
/-- the pairs of one dict laid into another -/
theorem merge_pairs {d o : Addr} {kvs more : List (κ × Value)} {Q : Unit → Shared → Prop} (hdo : d ≠ o) (hoS : (o == sysModules) = false) (flat : ∀ k v, knd.is k v = true → ∀ a, v ≠ .ref a)
    (hd : s.heap.DictOf knd d kvs) (ho : s.heap.DictOf knd o more) (hsz : kvs.length + more.length ≤ sizeLine)
    (hq : ∀ h', h'.DictOf knd d (merged kvs more) → Heap.SameBut d s.heap h' → Q () { s with heap := h' }) : wpAny (model prog w) A (mergeMapping d (.ref o) false) Q E s := by
  obtain ⟨od, esd, epd, hod, hcd, hdd, hkd, hpd, hnd⟩ := id hd
  obtain ⟨oo, es, ep, hoo, hco, hdo', hko, hpo, hno⟩ := id ho
  have lm : more.length = es.size := by rw [← hpo.length]; simp
  unfold mergeMapping
  refine wpAny_bind (wpAny_isInstance ho.typeIs isSubtype_dict_dict ?_)
  simp only [if_true]
  refine wpAny_bind (wpAny_specialOf ho.typeIs F.slot_dict_iter.lookup (wpAny_bind (wpAny_pure ?_)))
  simp only [beq_self_eq_true]
  rw [if_neg (by rw [hoS]; exact Bool.false_ne_true)]
  have loop : wpAny (model prog w) A (do
      let l ← dictEntries o
      let epoch ← dictEpoch o
      forIn (List.range l.size) PUnit.unit fun i (_ : PUnit) => (do
        let l' ← dictEntries o
        match l'[i]? with
        | some e => do
          holding [e.key, e.val] (dictPut d e.hash e.key e.val)
          let ep' ← dictEpoch o
          if (ep' != epoch) = true then do
              (unsupported "dict.changed-during-merge" : Sem PUnit)
              pure (ForInStep.yield PUnit.unit)
            else pure (ForInStep.yield PUnit.unit)
        | _ => do
          (unsupported "dict.changed-during-merge" : Sem PUnit)
          pure (ForInStep.yield PUnit.unit) : Sem (ForInStep PUnit))
      pure ()) Q E s := by
    refine wpAny_bind (wpAny_dictEntries hoo hdo' ?_)
    refine wpAny_bind (wpAny_dictEpoch hoo hdo' (wpAny_bind ?_))
    rw [List.range_eq_range']
    refine wpAny_forIn_list _
      (fun todo _ s' => ∃ h' i, s' = { s with heap := h' } ∧ todo = List.range' i (es.size - i) ∧ i ≤ es.size ∧ h'.DictOf knd d (merged kvs (more.take i)) ∧ h'.get? o = some oo ∧ Heap.SameBut d s.heap h')
      _ ?_ ?_ _ _ ⟨s.heap, 0, rfl, by simp, Nat.zero_le _, by simpa [merged] using hd, hoo, Heap.SameBut.refl _ _⟩
    · rintro x todo b s' ⟨h', i, rfl, hr, hi, hd', hoo', hs'⟩
      have lt : i < es.size := by
        rcases Nat.lt_or_ge i es.size with c | c
        · exact c
        · rw [Nat.sub_eq_zero_of_le c] at hr
          simp at hr
      obtain ⟨rfl, rest⟩ : x = i ∧ todo = List.range' (i + 1) (es.size - (i + 1)) := by
        have z : es.size - i = (es.size - (i + 1)) + 1 := by omega
        rw [z, List.range'_succ] at hr
        injection hr with z1 z2
        exact ⟨z1, z2⟩
      refine wpAny_bind (wpAny_dictEntries hoo' hdo' ?_)
      rw [Array.getElem?_eq_getElem lt]
      obtain ⟨kv, ek⟩ : ∃ kv, more[x]? = some kv := ⟨more[x]'(by rw [lm]; exact lt), List.getElem?_eq_getElem _⟩
      obtain ⟨k, v⟩ := kv
      obtain ⟨hkey, hval⟩ := hpo.get? (e := es[x]) (by simp [lt]) ek
      obtain ⟨k', hkey', hhash⟩ := hko es[x] (Array.getElem_mem lt)
      obtain rfl : k' = k := knd.inj _ _ _ hkey' hkey
      show wpAny _ _ (holding [es[x].key, es[x].val] (dictPut d es[x].hash es[x].key es[x].val) >>= _) _ _ _
      rw [hhash, hval]
      have small : (merged kvs (more.take x)).length ≤ sizeLine := by
        have e1 := merged_length_le kvs (more.take x)
        have e2 : (more.take x).length ≤ more.length := by rw [List.length_take]; omega
        omega
      refine wpAny_bind (wpAny_holding (put_pairs hkey hd' small fun h'' hd'' hs'' => ?_))
      have hoo'' : h''.get? o = some oo := (hs''.2 o (Ne.symm hdo)).trans hoo'
      refine wpAny_bind (wpAny_dictEpoch hoo'' hdo' ?_)
      rw [if_neg (by simp)]
      exact wpAny_pure ⟨h'', x + 1, rfl, rest, lt, by rw [merged_take_succ kvs more x (k', v) ek]; exact hd'', hoo'', hs'.trans hs''⟩
    · rintro b s' ⟨h', i, rfl, hr, hi, hd', hoo', hs'⟩
      have z : i = es.size := by
        rcases Nat.lt_or_ge i es.size with c | c
        · have z : es.size - i = (es.size - (i + 1)) + 1 := by omega
          rw [z, List.range'_succ] at hr
          exact nomatch hr
        · exact Nat.le_antisymm hi c
      refine wpAny_pure (hq h' ?_ hs')
      rw [z, ← lm, List.take_length] at hd'
      exact hd'
  refine wpAny_bind (wpAny_dictEntries hod hdd ?_)
  split
  · refine wpAny_bind (wpAny_dictEntries hoo hdo' (wpAny_bind ?_))
    rw [← Array.forIn_toList]
    refine wpAny_forIn_list _ (fun todo _ s' => s' = s ∧ ∀ e ∈ todo, e ∈ es.toList) _ ?_ ?_ _ _ ⟨rfl, fun e he => he⟩
    · rintro e todo b s' ⟨rfl, hm⟩
      have me : e ∈ es := by simpa using hm e List.mem_cons_self
      obtain ⟨k, hk, _⟩ := hko e me
      have nr := flat k e.key hk
      have rest : ∀ e' ∈ todo, e' ∈ es.toList := fun e' he' => hm e' (List.mem_cons_of_mem _ he')
      split
      · rename_i a ea
        exact absurd ea (nr a)
      · exact wpAny_pure ⟨rfl, rest⟩
    · rintro b s' ⟨rfl, _⟩
      exact loop
  · exact loop
end
section
variable {X : Cx}
/-- {**d, k: v} -/
def tDispX (ta tk tv : TE) : TE := fun σ H Q => ∀ p, H p = none → ta σ (upd H p (.dK [])) fun x H1 => ∃ a ks, x = .ref a ∧ a ≠ p ∧ Rd H1 a (.dK ks) ∧ H1 p = some (.dK []) ∧ (ks.map (·.1)).Nodup ∧ ks.length < sizeLine ∧
  ∀ p2, (upd H1 p (.dK ks)) p2 = none → tPairs [(tk, tv)] σ (upd (upd H1 p (.dK ks)) p2 (.dK [])) (fun ps H3 => ∃ kx vx, ps = [(kx, vx)] ∧ ∃ k, kx = kV k ∧ H3 p2 = some (.dK []) ∧ H3 p = some (.dK ks) ∧
    Q (.ref p) (upd (upd H3 p2 (.dK [(k, vx)])) p (.dK (putK ks k vx))))
theorem putK_le {κ : Type} [DecidableEq κ] (ks : List (κ × V)) (k : κ) (v : V) : (putK ks k v).length ≤ ks.length + 1 := by
  unfold putK
  split
  · rw [List.length_map]
    omega
  · rw [List.length_append]
    exact Nat.le_refl _
theorem mix_flat {P : Program} {w : World} : ∀ k v, (mixKind P w).is k v = true → ∀ a, v ≠ .ref a := fun k v h a e => by
  rcases keyIs_shape (show keyIs k v = true from h) with ⟨i, t, _, e2⟩ | ⟨x, t, _, e2⟩ <;> (rw [e2] at e; cases e)
theorem pe_dispX {d0 k v : Expr} {pos : Pos} {ta tk tv : TE} (ha : PE X d0 ta) (hk : PE X k tk) (hv : PE X v tv) : PE X (.Dict [none, some k] [d0, v] pos) (tDispX ta tk tv) := by
  refine ⟨fun pins s σ H Q I q => ?_⟩
  rw [arm_eval_Dict]
  refine wpAny_bind (wpAny_standAt ?_)
  have sh : (evalEachOpt [none, some k] X.env).zip ((evalEach [d0, v] X.env).map fun v => do let x ← v; standAt pos; pure x) = [(none, do let x ← eval d0 X.env; standAt pos; pure x), (some (eval k X.env), do let x ← eval v X.env; standAt pos; pure x)] := rfl
  rw [sh]
  unfold dictDisplay
  simp only [List.forIn_cons, List.forIn_nil, List.isEmpty_nil, if_true]
  refine wpAny_bind (wpAny_bind (wpAny_bind (wpAny_pure ?_)))
  dsimp only
  refine wpAny_bind (wpAny_alloc ?_)
  have hn := I.hok.fresh (Nat.le_refl s.heap.objs.size)
  have I1 := I.laid (a := s.heap.objs.size) (o := .dK []) (h' := s.heap.push { cls := .type "dict", data := .dict #[] }) (t' := s.toks) (fun _ _ q => Heap.get?_push_of_some _ q) (Nat.le_refl _) (dk_empty s.heap I.big)
  generalize s.heap.objs.size = p at hn I1 ⊢
  refine wpAny_bind (wpAny_holding (wpAny_bind (thn (ha.run pins _ σ _ _ I1 (q p hn)) fun u s2 z => wpAny_bind (wpAny_standAt (wpAny_pure ?_)))))
  obtain ⟨x, H1, I2, rx, a, ks, rfl, nap, hrd, hp1, nd, hsz, q2⟩ := z
  cases rx
  obtain ⟨_, na, va, ra, da⟩ := dk_rd I2.hok hrd
  obtain ⟨_, np, v0, r0, dp⟩ := dk_of I2.hok hp1
  cases r0
  have ndv : (va.map (·.1)).Nodup := by rw [← ra.keys]; exact nd
  refine wpAny_bind (wpAny_onRaise (wpAny_tryCatch (wpAny_onRaise (wpAny_holding (merge_pairs (Ne.symm nap) na mix_flat dp da (by rw [List.length_nil, ← ra.length]; omega) fun h' d' sb => ?_)))))
  rw [merged_nil_of_nodup va ndv] at d'
  have ex : ∃ o, h'.get? p = some o := let ⟨o, _, _, g, _⟩ := d'; ⟨o, g⟩
  have I3 : Inv X pins σ (upd H1 p (.dK ks)) { s2 with heap := h' } := d_write I2 (by rw [hp1]; exact trivial) sb ex (dk_new (Nat.le_of_lt hsz) np ra d')
  refine wpAny_pure ?_
  dsimp only
  rw [if_neg (show ¬ ((([] ++ [(eval k X.env, do let x ← eval v X.env; standAt pos; pure x)] : List (Sem Value × Sem Value)).length == 17) = true) from by simp)]
  refine wpAny_bind (wpAny_pure ?_)
  dsimp only
  refine wpAny_pure ?_
  dsimp only
  refine wpAny_bind ?_
  rw [if_neg (show ¬ ((([] ++ [(eval k X.env, do let x ← eval v X.env; standAt pos; pure x)] : List (Sem Value × Sem Value)).isEmpty) = true) from by simp)]
  have hn3 := I3.hok.fresh (Nat.le_refl h'.objs.size)
  have I4 := I3.laid (a := h'.objs.size) (o := .dK []) (h' := h'.push { cls := .type "dict", data := .dict #[] }) (t' := s2.toks) (fun _ _ q => Heap.get?_push_of_some _ q) (Nat.le_refl _) (dk_empty h' I3.big)
  have hq2 := q2 h'.objs.size hn3
  have pp : PPs X pos [some k] [v] [(tk, tv)] := pps_cons hk hv pps_nil
  refine wpAny_bind (wpAny_holding (wpAny_subDict (knd := mixKind X.prog X.w) (by simp) ?_))
  refine thn (pp.run pins _ σ _ (fun ps H3 => ∃ kx vx, ps = [(kx, vx)] ∧ ∃ k, kx = kV k ∧ H3 h'.objs.size = some (.dK []) ∧ H3 p = some (.dK ks) ∧ Q (.ref p) (upd (upd H3 h'.objs.size (.dK [(k, vx)])) p (.dK (putK ks k vx)))) I4 ?_) fun ws s5 z => ?_
  · exact hq2
  obtain ⟨ps, H5, I5, rel, kx, vx, eps, k', ek, hp2, hp5, qe⟩ := z
  subst eps
  subst ek
  obtain ⟨rs, cr, rk⟩ := carries_of (P := X.prog) (w := X.w) (kvs := [(k', vx)]) rel
  obtain ⟨_, np2, w0, r1, dd⟩ := dk_of I5.hok hp2
  cases r1
  refine ⟨rs, cr, dd, fun h6 d6 sb6 => ?_⟩
  have rm : KV (mergeK [] [(k', vx)]) (merged [] rs) := rk.merge .nil
  have em : mergeK [] [(k', vx)] = [(k', vx)] := by simp [mergeK, putK]
  rw [em] at rm
  have ex6 : ∃ o, h6.get? h'.objs.size = some o := let ⟨o, _, _, g, _⟩ := d6; ⟨o, g⟩
  have I6 : Inv X pins σ (upd H5 h'.objs.size (.dK [(k', vx)])) { s5 with heap := h6, toks := s5.toks + ws.length } := d_write I5 (by rw [hp2]; exact trivial) sb6 ex6 (dk_new (by rw [sizeLine_eq]; exact (by decide : 1 ≤ 16777216)) np2 rm d6)
  have npp : p ≠ h'.objs.size := fun e => by
    rw [← e, upd_same] at hn3
    cases hn3
  have hp6 : (upd H5 h'.objs.size (.dK [(k', vx)])) p = some (.dK ks) := by rw [upd_ne npp]; exact hp5
  obtain ⟨_, np7, v7, r7, d7⟩ := dk_of I6.hok hp6
  refine wpAny_bind (wpAny_onRaise (wpAny_holding (merge_pairs npp np2 mix_flat d7 d6 ?_ fun h8 d8 sb8 => ?_)))
  · rw [← r7.length, ← rm.length]
    exact hsz
  have rp : KV (putK ks k' vx) (merged v7 (merged [] rs)) := by
    have z := rm.merge r7
    have ez : mergeK ks [(k', vx)] = putK ks k' vx := rfl
    rw [ez] at z
    exact z
  have ex8 : ∃ o, h8.get? p = some o := let ⟨o, _, _, g, _⟩ := d8; ⟨o, g⟩
  have zp : (putK ks k' vx).length ≤ sizeLine := by
    have e1 := putK_le ks k' vx
    omega
  have I8 := d_write (t' := s5.toks + ws.length) I6 (by rw [hp6]; exact trivial) sb8 ex8 (dk_new zp np7 rp d8)
  refine wpAny_pure ?_
  dsimp only
  exact wpAny_pure ⟨.ref p, _, I8, rfl, qe⟩
end
end K98
/-! K98Enum -/
set_option Elab.async false
set_option linter.all false
set_option maxRecDepth 100000
set_option maxHeartbeats 4000000
/-! enumerate(tuple); for i, x in enumerate(a list or a tuple) -/
namespace K98
open PySem
theorem enumerate_made (l : Addr) (items : Array Value) :
    Meets (Builtin.«enumerate.__new__» ⟨[.type "enumerate", .ref l], []⟩) (fun _ R s => s.heap.IsTuple l items ∧
      R (.ok (.ret (.ref (s.heap.push { cls := .type "tuple_iterator", data := .fields #[.ref l, .int 0 0] }).objs.size)))
        { s with heap := (s.heap.push { cls := .type "tuple_iterator", data := .fields #[.ref l, .int 0 0] }).push { cls := .type "enumerate", data := .fields #[.none, .bool false, .ref s.heap.objs.size, rawInt 0, .none, .none] } }) :=
  .of_wp fun prog w A R s h => by
    obtain ⟨hp, g, d, tk, os⟩ := s; obtain ⟨hl, h⟩ := h
    have sub := sub_enumerate
    have hL : Heap.IsTuple (Shared.heap ⟨hp, g, d, tk, os⟩) l items := hl
    wp_walk
    refine wpAny_stack_any fun st => wpAny_pure ?_
    split
    · rename_i c _ _ _ _ _
      cases (c == Value.type "enumerate")
      · wp_walk using wpAny_pyIter_tuple hL
        exact ⟨_, rfl, h⟩
      · wp_walk using wpAny_pyIter_tuple hL
        exact ⟨_, rfl, h⟩
    · wp_walk using wpAny_pyIter_tuple hL
      exact ⟨_, rfl, h⟩
section
variable {prog : Program} {w : World} {A : Around} {E : Value → Shared → Prop} {s : Shared}
theorem call_enumerate_tup {l : Addr} {items : Array Value} {Q : Value → Shared → Prop} (hL : s.heap.IsTuple l items)
    (h : ∀ h', IsEnum h' (s.heap.objs.size + 1) s.heap.objs.size 0 .none → h'.IsTupleIter s.heap.objs.size l 0 → h'.objs.size = s.heap.objs.size + 2 →
      (∀ b o, s.heap.get? b = some o → h'.get? b = some o) → Q (.ref (s.heap.objs.size + 1)) { s with heap := h' }) :
    wpAny (model prog w) A (call (.type "enumerate") [.ref l]) Q E s := by
  refine callType_new F.called_enumerate (by decide) (F.typeCall_enumerate_1 _) (F.newCall_enumerate_1 _) (fun obj => F.args_object_init_2 obj _) F.entry_enumerate_new (enumerate_made l items) ⟨hL, ?_⟩
  have hz : (s.heap.push { cls := .type "tuple_iterator", data := .fields #[.ref l, .int 0 0] }).objs.size = s.heap.objs.size + 1 := Heap.size_push ..
  show _ ∧ _
  rw [hz]
  have he : IsEnum ((s.heap.push { cls := .type "tuple_iterator", data := .fields #[.ref l, .int 0 0] }).push
      { cls := .type "enumerate", data := .fields #[.none, .bool false, .ref s.heap.objs.size, rawInt 0, .none, .none] }) (s.heap.objs.size + 1) s.heap.objs.size 0 .none := by
    have z := Heap.get?_push_size (s.heap.push { cls := .type "tuple_iterator", data := .fields #[.ref l, .int 0 0] })
      (o := { cls := .type "enumerate", data := .fields #[.none, .bool false, .ref s.heap.objs.size, rawInt 0, .none, .none] }) rfl
    rw [hz] at z
    exact z
  exact ⟨⟨_, he, rfl⟩, h _ he ⟨_, Heap.get?_push_of_some _ (Heap.get?_push_size _ rfl), rfl, rfl⟩ (by rw [Heap.size_push, hz]) fun b o x => Heap.get?_push_of_some _ (Heap.get?_push_of_some _ x)⟩
end
open PySem.Spec PyProof.Rows L2
/-- the tuple at a, each item in a new pair -/
def IteT (K : PySem.W.Frag) (a : Addr) : It :=
  ⟨fun i H => ∃ (xs : List V) (x : V), SqT K H a xs ∧ xs[i]? = some x, fun i H v H' => ∃ T x, v = .ref T ∧ H T = none ∧ H' = upd H T (.tup [.int (i : Nat), x]) ∧ ∀ xs, SqT K H a xs → xs[i]? = some x, fun i H => ∃ xs : List V, SqT K H a xs ∧ xs.length ≤ i⟩
theorem turn_enumT {P : Program} {w : World} {K : PySem.W.Frag} {elts : List Expr} {kk : Nat} {tpos : Pos} (a e it : Addr) :
    Turn P w K (.Tuple elts kk tpos) (IteT K a) [e, it] e (fun i h => (∃ old, IsEnum h e it ((i : Nat) : Int) old) ∧ h.IsTupleIter it a i ∧ e ≠ it ∧ a ≠ it ∧ a ≠ e) where
  mem := by simp
  obj := fun i h st b hb => by
    obtain ⟨⟨old, he⟩, ⟨o, ho, hc, hd⟩, _⟩ := st
    have e' : b = e ∨ b = it := by simpa using hb
    rcases e' with z | z
    · rw [z]; exact ⟨_, he, fun v q => nomatch q⟩
    · rw [z]; exact ⟨o, ho, fun v q => by rw [hd] at q; cases q⟩
  keep := fun i h h' st k => let ⟨⟨old, he⟩, ⟨o, ho, r⟩, hne⟩ := st; ⟨⟨old, k e (by simp) _ he⟩, ⟨o, k it (by simp) o ho, r⟩, hne⟩
  item := by
    intro X hP hw hK hc i pins s σ H E I hf st hg
    subst hP hw hK
    obtain ⟨⟨old, he⟩, hit, hne, hai, hae⟩ := st
    obtain ⟨xs, x, hq, hx⟩ := hg
    obtain ⟨its, rv, p, hz⟩ := I.tuple hq
    obtain ⟨u, hu, ru⟩ := rv.get hx
    have hel : e < s.heap.objs.size := Heap.lt_size he
    have hil : it < s.heap.objs.size := by obtain ⟨_, q, _⟩ := hit; exact Heap.lt_size q
    have lt : i < its.toArray.size := by
      have z := (List.getElem?_eq_some_iff.mp hu).1
      simpa using z
    have D := Draws.tuple (prog := X.prog) (w := X.w) (A := X.A.in1) (I.ok.hd hc) it a hai its.toArray
    refine wpAny_pyNext_enum_itemD (D) he ⟨hit, p⟩ lt hne (by simp [hne, Ne.symm hae]) fun x' h' tk px ho hst hT hsz hk => ?_
    have ex' : x' = u := by
      have z : its.toArray[i]? = some x' := px
      have z2 : its.toArray[i]? = some u := by simpa using hu
      rw [z] at z2
      exact Option.some.inj z2
    subst ex'
    refine ⟨_, rfl, wpAny_letOwnedTupleGo_enum (s := { s with heap := h', toks := tk + 1 }) ho fun h'' he' sb => ?_⟩
    have hT2 : h''.get? s.heap.objs.size = some { cls := .type "tuple", data := .seq #[.int i tk, x'] } := (sb.2 _ (Nat.ne_of_gt hel)).trans hT
    have new : ObjOk X.prog X.w (upd H s.heap.objs.size (.tup [.int (i : Nat), x])) h'' s.heap.objs.size (.tup [.int (i : Nat), x]) :=
      ⟨by show 2 ≤ sizeLine; decide, [.int i tk, x'], .cons ⟨_, rfl⟩ (.cons ru .nil), ⟨_, hT2, rfl, _, rfl⟩⟩
    have I1 : Inv X pins σ (upd H s.heap.objs.size (.tup [.int (i : Nat), x])) { s with heap := h'', toks := tk + 1 } :=
      I.turnedNew (ch := [e, it]) (fun b ob hb q => (sb.2 b (fun z => hb (by simp [z]))).trans (hk b ob (fun z => hb (by simp [z])) (fun z => hb (by simp [z])) q)) hf (Nat.le_refl _) new
    refine ⟨.ref s.heap.objs.size, _, I1, rfl, ⟨_, x, rfl, I.hok.fresh (Nat.le_refl _), rfl, fun ys hy => by rw [I.tuple_inj hy hq]; exact hx⟩, ⟨⟨x', ?_⟩, ?_, hne, hai, hae⟩, fun b hb => ?_⟩
    · have e1 : ((i + 1 : Nat) : Int) = (i : Int) + 1 := by omega
      rw [e1]; exact he'
    · obtain ⟨o, q1, q2⟩ := hst.1
      exact ⟨o, (sb.2 it (Ne.symm hne)).trans q1, q2⟩
    · have hb' : b < s.heap.objs.size := by
        have e' : b = e ∨ b = it := by simpa using hb
        rcases e' with z | z
        · rw [z]; exact hel
        · rw [z]; exact hil
      rw [upd_ne (Nat.ne_of_lt hb')]
      exact (hf b hb).1
  done := by
    intro X hP hw hK hc i pins s σ H E I hf st hg
    subst hP hw hK
    obtain ⟨⟨old, he⟩, hit, hne, hai, hae⟩ := st
    obtain ⟨xs, hq, hx⟩ := hg
    obtain ⟨its, rv, p, hz⟩ := I.tuple hq
    obtain ⟨f0, f1, f2, f3, f4, f5⟩ := hf it (by simp)
    have hl := rv.length
    have out : its.toArray[i]? = none := by simp; omega
    have hh : X.A.in1.handled = none := I.ok.hd hc
    have D : Draws X.prog X.w X.A.in1 it [it, a] 0 (fun _ _ => False) (fun _ h => h.IsTupleIter it a i ∧ h.IsTuple a its.toArray) :=
      { live := fun _ _ st => let ⟨o, ho, _⟩ := st.1; ⟨o, ho⟩
        frame := fun _ _ _ st hk => ⟨st.1.at fun o e => hk it (by simp) o e, st.2.at fun o e => hk a (by simp) o e⟩
        item := fun j s Q E hj _ _ => absurd hj (Nat.not_lt_zero _)
        done := fun s Q E st hE => wpAny_nextOf_tuple_end hh st.1 st.2 out hE }
    exact wpAny_pyNext_enum_endD D he ⟨hit, p⟩ fun h' eb => ⟨rfl, I.turned (t' := s.toks) (fun b o hb q => eb b o hb q) f0 f1 f3 f4 f5⟩
  self := fun A i s Q E st h => let ⟨⟨_, he⟩, _⟩ := st; wpAny_pyIter_enum he h
theorem walk_enumT {K : PySem.W.Frag} {a : Addr} {xs : List V} : Walk (IteT K a) xs.length (fun H => SqT K H a xs) (YPair (fun i => some (.int (i : Nat))) (fun i => xs[i]?)) :=
  ⟨fun i H hi q => ⟨xs, xs[i], q, List.getElem?_eq_getElem hi⟩, fun H q => ⟨xs, q, Nat.le_refl _⟩, fun i H v H' hi q y => by
    obtain ⟨T, x, ev, nT, eH, hx⟩ := y
    exact ⟨T, _, x, ev, nT, eH, rfl, hx xs q⟩⟩
def iEnumA (K : PySem.W.Frag) (ta : TA) : TI := fun σ H R => ta σ H fun vs H1 => ∃ a xs, vs = [.ref a] ∧ ∃ G : Hp → Prop, ((∀ H, G H → SqL K H a xs) ∨ ∀ H, G H → SqT K H a xs) ∧ G H1 ∧
  ∀ J, Walk J xs.length G (YPair (fun i => some (.int (i : Nat))) (fun i => xs[i]?)) → R J H1
theorem pi_enumA {X : Cx} {e : Expr} {ta : TA} {p pos tpos : Pos} {elts : List Expr} {kk : Nat} (hg : Gl X "enumerate") (hm : X.mg "enumerate" = none) (ha : PA X [e] ta) (hs : starEach [e] X.env = [(false, eval e X.env)] := by rfl) :
    PI X (.Tuple elts kk tpos) (.Call (.Name "enumerate" p) [e] [] pos) (iEnumA X.K ta) := by
  refine ⟨fun pins s σ H R I h => ?_⟩
  refine Call_ (ld_blt I hg hm boot_enumerate (PyProof.Rows.callWith_type1 (thn (ha.run pos pins s σ H _ I h) fun us s1 ⟨vs, H1, I1, r1, q1⟩ => ?_) hs rfl))
  obtain ⟨a, xs, ex, G, hG, g1, q⟩ := q1
  subst ex
  cases r1 with
  | cons r rr =>
    cases rr
    cases r
    rcases hG with hG | hG
    · obtain ⟨its, rv, p', hz⟩ := I1.list (hG _ g1)
      refine call_enumerate_list p'.isList fun h' he hit hsz hk => wpAny_pyIter_enum he ?_
      have I2 : Inv X pins σ H1 { s1 with heap := h' } := I1.kept (t' := s1.toks) hk
      refine ⟨s1.heap.objs.size + 1, [s1.heap.objs.size + 1, s1.heap.objs.size], _, _, H1, rfl, I2, turn_enum a (s1.heap.objs.size + 1) s1.heap.objs.size, ⟨⟨.none, he⟩, hit, Nat.succ_ne_self _⟩, fun b hb => ?_, q _ (walk_enum.mono hG fun i H x H' _ _ y => y)⟩
      have hle : s1.heap.objs.size ≤ b := by
        rcases (by simpa using hb : b = s1.heap.objs.size + 1 ∨ b = s1.heap.objs.size) with z | z
        · rw [z]; exact Nat.le_add_right _ _
        · rw [z]; exact Nat.le_refl _
      exact I1.fpOk hle (I1.hok.fresh hle)
    · obtain ⟨its, rv, p', hz⟩ := I1.tuple (hG _ g1)
      have la : a < s1.heap.objs.size := by obtain ⟨_, q, _⟩ := p'; exact Heap.lt_size q
      refine call_enumerate_tup p' fun h' he hit hsz hk => wpAny_pyIter_enum he ?_
      have I2 : Inv X pins σ H1 { s1 with heap := h' } := I1.kept (t' := s1.toks) hk
      refine ⟨s1.heap.objs.size + 1, [s1.heap.objs.size + 1, s1.heap.objs.size], _, _, H1, rfl, I2, turn_enumT a (s1.heap.objs.size + 1) s1.heap.objs.size, ⟨⟨.none, he⟩, hit, Nat.succ_ne_self _, Nat.ne_of_lt la, Nat.ne_of_lt (Nat.lt_succ_of_lt la)⟩, fun b hb => ?_, q _ (walk_enumT.mono hG fun i H x H' _ _ y => y)⟩
      have hle : s1.heap.objs.size ≤ b := by
        rcases (by simpa using hb : b = s1.heap.objs.size + 1 ∨ b = s1.heap.objs.size) with z | z
        · rw [z]; exact Nat.le_add_right _ _
        · rw [z]; exact Nat.le_refl _
      exact I1.fpOk hle (I1.hok.fresh hle)
end K98
/-! K98Steps -/
set_option Elab.async false
set_option linter.all false
set_option maxRecDepth 100000
set_option maxHeartbeats 4000000
/-! is_text, is_name, is_key, is_edit -/
namespace K98
open PySem PySem.Spec PyProof.Rows L2
/-- the def at f keeps sp; its written defaults are dvs -/
def FnG (w : World) (K : Fg) (mg : Str → Option Value) (base : Heap) (CX : CXT) (k : Nat) (f : Addr) (ps : List Str) (dvs : List V) (sp : Sp) : Prop :=
  ∃ (fd : FuncData) (ds : List Value), FnOk R.prog w K mg base CX k f fd ps sp ∧ Binds K fd ps ds ∧ Vals dvs ds ∧ PySem.W.keepIn K (.ref f) = true
abbrev lettersL : List Nat := ("abcdefghijklmnopqrstuvwxyz" : Str).cps.toList
abbrev signsL : List Nat := ("abcdefghijklmnopqrstuvwxyz0123456789" : Str).cps.toList
/-- what is_name says of a text -/
def nameB (z : Str) : Bool := decide (0 < z.length) && (decide (z.length ≤ 8) && ((match z.cps.toList[0]? with
  | some c => decide (c ∈ lettersL)
  | none => false) && z.cps.toList.all fun c => decide (c ∈ signsL)))
def textB (z : Str) : Bool := decide (z.length ≤ 400) && z.cps.toList.all fun c => decide (32 ≤ c) && (decide (c ≤ 126) && decide (c ≠ 37))
def NotT (K : Fg) (H : Hp) (v : V) (t : String) : Prop := ∃ u, TyX K H v u ∧ PySem.W.kitOne K u (.type t) = some false
/-- is_name's answer -/
def NameV (K : Fg) (H : Hp) (v : V) (r : Bool) : Prop := (∃ z, v = .str z ∧ z.length ≤ 1000 ∧ r = nameB z) ∨ (NotT K H v "str" ∧ r = false)
def TextV (K : Fg) (H : Hp) (v : V) (r : Bool) : Prop := (∃ z, v = .str z ∧ z.length ≤ 1000 ∧ r = textB z) ∨ (NotT K H v "str" ∧ r = false)
def KeyV (K : Fg) (H : Hp) (v : V) (r : Bool) : Prop := (NotT K H v "tuple" ∧ r = false) ∨ ∃ a xs, v = .ref a ∧ SqT K H a xs ∧ TyX K H v (.type "tuple") ∧
  ((xs.length ≠ 2 ∧ r = false) ∨ ∃ x y r1 r2, xs = [x, y] ∧ NameV K H x r1 ∧ NameV K H y r2 ∧ r = (r1 && r2))
def spName (K : Fg) : Sp := fun vs H Q _ => ∃ v r, vs = [v] ∧ NameV K H v r ∧ ∀ H', Same H H' → Q (.bl r) H'
def spText (K : Fg) : Sp := fun vs H Q _ => ∃ v r, vs = [v] ∧ TextV K H v r ∧ ∀ H', Same H H' → Q (.bl r) H'
def spKey (K : Fg) : Sp := fun vs H Q _ => ∃ v r, vs = [v] ∧ KeyV K H v r ∧ ∀ H', Same H H' → Q (.bl r) H'
section
variable {w : World} {K : Fg} {mg : Str → Option Value} {base : Heap}
theorem small_line {n : Nat} (h : n ≤ 1000) : n ≤ sizeLine := by
  rw [sizeLine_eq]
  omega
theorem iteT2 {c : Bool} {A B : Prop} (hc : c = true) (h : A) : if c = true then A else B := by rw [if_pos hc]; exact h
theorem iteF2 {c : Bool} {A B : Prop} (hc : c = false) (h : B) : if c = true then A else B := by rw [hc, if_neg Bool.false_ne_true]; exact h
theorem relI {i : Int} {t : Tok} : RelV (.int i) (.int i t) := ⟨_, rfl⟩
theorem relS {z : Str} {t : Tok} : RelV (.str z) (.str z t) := ⟨_, rfl⟩
theorem take_next {α : Type} {l : List α} {i : Nat} {x : α} (h : l[i]? = some x) : l.take (i + 1) = l.take i ++ [x] := by
  rw [List.take_add_one, h]
  rfl
theorem sign_lt (a b : Nat) : decide (([a] : List Nat) < [b]) = decide (a < b) := by
  apply decide_eq_decide.mpr
  constructor
  · intro h
    cases h with
    | rel h => exact h
    | cons h => cases h
  · intro h
    exact .rel h
/-- all([test for sign in z]): te tells f of slot 1's sign -/
theorem all_read {te : TE} {f : Nat → Bool} {z : Str} {σ : St} {H : Hp} {Q : VK} (h0 : σ[0]? = some (some (.str z))) (hl : σ.length = 2) (h1 : σ[1]? = some none) (hz : z.cps.toList.length ≤ 1000)
    (ht : ∀ σ' H' c (Q' : VK), σ'[1]? = some (some (.str ⟨#[c]⟩)) → Q' (.bl (f c)) H' → te σ' H' Q') (k : ∀ H', Same H H' → Q (.bl (z.cps.toList.all f)) H') :
    tCB (rAll K) (tCons (tLc (iStr (tVar 0)) (gName 1) tYes te [1]) tNil) σ H Q := by
  refine ⟨_, h0, z, rfl, fun D hD => ?_⟩
  refine lc_it walk_str (fun i H' => Same H H' ∧ H' D = some (.lst ((z.cps.toList.take i).map fun c => V.bl (f c)))) ⟨fun b o e => ?_, ?_⟩ (fun _ _ _ _ => trivial) ?_ ?_
  · rw [upd_ne (ne_of_none e hD)]
    exact e
  · rw [upd_same]
    rfl
  · rintro i x H1 H2 hi ⟨s1, d1⟩ ⟨rfl, c, hc, rfl⟩
    refine ⟨by simp [wipe, List.set_set], ?_⟩
    unfold tYes
    dsimp only
    rw [if_pos rfl]
    refine ht _ _ c _ (by simp [wipe, hl]) ⟨_, d1, ?_, fun b o e => ?_, ?_⟩
    · rw [List.length_map, List.length_take, sizeLine_eq]
      omega
    · rw [upd_ne (ne_of_none e hD)]
      exact s1 b o e
    · have hc' : z.cps.toList[i]? = some c := by simpa using hc
      rw [upd_same, take_next hc', List.map_append]
      rfl
  · rintro H1 ⟨s1, d1⟩
    have e : z.cps.size = z.cps.toList.length := by simp
    rw [e, List.take_length] at d1
    refine ⟨D, z.cps.toList.map f, rfl, SqL.of (by rw [d1, List.map_map]; rfl), ?_⟩
    have ea : (z.cps.toList.map f).all id = z.cps.toList.all f := by
      rw [List.all_map]
      rfl
    rw [ea]
    exact k _ s1
theorem TyX.same {H H' : Hp} (e : Same H H') {v : V} {u : Value} (t : TyX K H v u) : TyX K H' v u := by
  cases t with
  | base b =>
    cases b with
    | non => exact .base .non
    | bl x => exact .base (.bl x)
    | int x => exact .base (.int x)
    | str x => exact .base (.str x)
    | flt x => exact .base (.flt x)
    | lst h => exact .base (.lst (e _ _ h))
    | frz h => exact .base (.frz (e _ _ h))
    | tup h => exact .base (.tup (e _ _ h))
    | dK h => exact .base (.dK (e _ _ h))
    | dT h => exact .base (.dT (e _ _ h))
    | ins h c1 c2 c3 c4 c5 => exact .base (.ins (e _ _ h) c1 c2 c3 c4 c5)
  | byt b => exact .byt b
  | set h => exact .set (e _ _ h)
  | kList h c => exact .kList h c
  | kTuple h c => exact .kTuple h c
  | kDict h c => exact .kDict h c
  | fTuple h => exact .fTuple (e _ _ h)
  | fDict h => exact .fDict (e _ _ h)
theorem NotT.same {H H' : Hp} (e : Same H H') {v : V} {t : String} (h : NotT K H v t) : NotT K H' v t := let ⟨u, ty, k⟩ := h; ⟨u, TyX.same e ty, k⟩
theorem NameV.same {H H' : Hp} {v : V} {r : Bool} (h : NameV K H v r) (e : Same H H') : NameV K H' v r := h.imp id fun h => ⟨h.1.same e, h.2⟩
theorem TextV.same {H H' : Hp} {v : V} {r : Bool} (h : TextV K H v r) (e : Same H H') : TextV K H' v r := h.imp id fun h => ⟨h.1.same e, h.2⟩
theorem KeyV.same {H H' : Hp} {v : V} {r : Bool} (h : KeyV K H v r) (e : Same H H') : KeyV K H' v r := h.imp (fun h => ⟨h.1.same e, h.2⟩) fun ⟨a, xs, e1, s, t, c⟩ =>
  ⟨a, xs, e1, s.ext e, TyX.same e t, c.imp id fun ⟨x, y, r1, r2, e2, n1, n2, er⟩ => ⟨x, y, r1, r2, e2, n1.same e, n2.same e, er⟩⟩
theorem ok_is_name (T : TX K mg) : FnG w K mg base CX0 1 (a_is_name K) P_is_name [] (spName K) := by
  obtain ⟨fd, F⟩ := T.D_is_name
  obtain ⟨t8, g8⟩ := T.int_LONGEST_NAME
  obtain ⟨tl, gl⟩ := T.str_LETTERS
  obtain ⟨ts, gs⟩ := T.str_SIGNS
  refine ⟨fd, [], F.ok sc_is_name (fun vs H Q E h => ?_) (fun cdv A outer s H vs Q E hr h => ?_), F.bindsN fun _ _ _ _ _ _ us hl => match us, hl with | [_], _ => rfl, .nil, F.kp⟩
  · obtain ⟨v, r, rfl, _⟩ := h
    rfl
  · obtain ⟨v, r, rfl, hv, k⟩ := h
    refine ⟨_, pss_cons (ps_if (PW.pt (pw_or (pt_not (pt_val (pe_callB call_isi (by rfl) T.n_isinstance (by decide +kernel) (pa_cons (pv 0) (pa_cons (pe_bltn (by rfl) T.n_str (by decide +kernel) (show RelV (.ty "str") (.type "str") from rfl)) pa_nil)))))
        (pw_or (pt_not (pt_chain op_lt op_le pe_int (pe_callB call_len_str (by rfl) T.n_len boot_len (pa_cons (pv 0) pa_nil)) (pe_glob (by rfl) g8 relI)))
        (pw_or1 (pt_cmpR op_notIn_sign (pe_ix ix_str (pv 0) pe_int (fun _ _ => rfl)) (pe_glob (by rfl) gl relS) rfl))))) (pss_one (ps_ret pe_bl)) pss_nil)
      (pss_one (ps_ret (pe_callB (cr_all rfl) (by rfl) T.n_all (by decide +kernel) (pa_cons (pe_lc (own := [("sign", 1)]) (g := gName 1) (tt := tYes) rfl sc_is_name.nd (pi_str (pv 0)) (blkOk_by (N := N_is_name) (sc := defScope s_is_name) (by decide +kernel))
        (fun _ _ _ _ _ => pg_name (i := 1) sc_is_name.nd rfl (Or.inl rfl)) (fun _ _ _ _ _ => pts_nil) (fun _ _ _ _ _ => pe_cmpR op_in_sign (pv 1) (pe_glob (by rfl) gs relS) rfl)) pa_nil)))), ?_⟩
    rcases hv with ⟨z, rfl, hz, rfl⟩ | ⟨⟨u, ty, ki⟩, rfl⟩
    · refine ⟨_, rfl, _, _, _, _, true, rfl, .ty "str", .base (.str z), kit_ty (by decide +kernel), true, rfl, ?_⟩
      refine iteF2 rfl ?_
      refine ⟨_, rfl, z, rfl, small_line hz, ?_⟩
      have hz' := small_line hz
      refine ⟨_, _, rfl, rfl, _, rfl, ?_⟩
      by_cases h0 : (0 : Int) < (z.length : Int)
      · refine iteT2 (decide_eq_true h0) ?_
        refine ⟨_, _, rfl, rfl, _, rfl, ?_⟩
        by_cases h8 : (z.length : Int) ≤ 8
        · refine iteF2 (by rw [decide_eq_true h8]; rfl) ?_
          have n0 : 0 < z.cps.toList.length := by
            have y : 0 < z.length := by omega
            simpa [Str.length] using y
          obtain ⟨c, hc⟩ : ∃ c, z.cps.toList[0]? = some c := ⟨_, List.getElem?_eq_getElem n0⟩
          refine ⟨_, rfl, z, 0, c, rfl, rfl, hz', ?_, c, _, rfl, rfl, _, rfl, ?_⟩
          · exact atI_nat (j := 0) hc
          · have hb : nameB z = (decide (c ∈ lettersL) && z.cps.toList.all fun c => decide (c ∈ signsL)) := by
              have y1 : 0 < z.length := by omega
              have y2 : z.length ≤ 8 := by omega
              unfold nameB
              rw [decide_eq_true y1, decide_eq_true y2, hc]
              rfl
            rw [hb] at k
            by_cases hl : c ∈ lettersL
            · refine iteF2 (by rw [decide_eq_true hl]; rfl) ?_
              rw [decide_eq_true hl, Bool.true_and] at k
              refine all_read rfl rfl rfl (by simpa [Str.length] using hz) (fun σ' H' c Q' h1 q => ⟨_, h1, c, _, rfl, rfl, q⟩) k
            · refine iteT2 (by rw [decide_eq_false hl]; rfl) ?_
              rw [decide_eq_false hl] at k
              exact k H (Same.refl H)
        · refine iteT2 (by rw [decide_eq_false h8]; rfl) ?_
          have e : nameB z = false := by
            have y : ¬ z.length ≤ 8 := by omega
            unfold nameB
            rw [decide_eq_false y]
            cases decide (0 < z.length) <;> rfl
          rw [e] at k
          exact k H (Same.refl H)
      · refine iteF2 (decide_eq_false h0) ?_
        refine ⟨_, rfl, ?_⟩
        refine iteT2 rfl ?_
        have e : nameB z = false := by
          have y : ¬ 0 < z.length := by omega
          unfold nameB
          rw [decide_eq_false y]
          rfl
        rw [e] at k
        exact k H (Same.refl H)
    · refine ⟨_, rfl, _, _, _, _, false, rfl, .ty "str", ty, ki, false, rfl, ?_⟩
      refine iteT2 rfl ?_
      refine iteT2 rfl ?_
      exact k H (Same.refl H)
theorem ok_is_text (T : TX K mg) : FnG w K mg base CX0 1 (a_is_text K) P_is_text [] (spText K) := by
  obtain ⟨fd, F⟩ := T.D_is_text
  obtain ⟨t4, g4⟩ := T.int_LONGEST
  refine ⟨fd, [], F.ok sc_is_text (fun vs H Q E h => ?_) (fun cdv A outer s H vs Q E hr h => ?_), F.bindsN fun _ _ _ _ _ _ us hl => match us, hl with | [_], _ => rfl, .nil, F.kp⟩
  · obtain ⟨v, r, rfl, _⟩ := h
    rfl
  · obtain ⟨v, r, rfl, hv, k⟩ := h
    refine ⟨_, pss_cons (ps_if (PW.pt (pw_or (pt_not (pt_val (pe_callB call_isi (by rfl) T.n_isinstance (by decide +kernel) (pa_cons (pv 0) (pa_cons (pe_bltn (by rfl) T.n_str (by decide +kernel) (show RelV (.ty "str") (.type "str") from rfl)) pa_nil)))))
        (pw_or1 (pt_cmpR op_gt (pe_callB call_len_str (by rfl) T.n_len boot_len (pa_cons (pv 0) pa_nil)) (pe_glob (by rfl) g4 relI) (nomark _))))) (pss_one (ps_ret pe_bl)) pss_nil)
      (pss_one (ps_ret (pe_callB (cr_all rfl) (by rfl) T.n_all (by decide +kernel) (pa_cons (pe_lc (own := [("sign", 1)]) (g := gName 1) (tt := tYes) rfl sc_is_text.nd (pi_str (pv 0)) (blkOk_by (N := N_is_text) (sc := defScope s_is_text) (by decide +kernel))
        (fun _ _ _ _ _ => pg_name (i := 1) sc_is_text.nd rfl (Or.inl rfl)) (fun _ _ _ _ _ => pts_nil)
        (fun _ _ _ _ _ => pe_and (pe_chain op_le_str op_le_str pe_str (pv 1) pe_str) (pe_one (pe_cmpR op_ne (pe_callB call_ord (by rfl) T.n_ord (by decide +kernel) (pa_cons (pv 1) pa_nil)) pe_int (nomark _))))) pa_nil)))), ?_⟩
    rcases hv with ⟨z, rfl, hz, rfl⟩ | ⟨⟨u, ty, ki⟩, rfl⟩
    · refine ⟨_, rfl, _, _, _, _, true, rfl, .ty "str", .base (.str z), kit_ty (by decide +kernel), true, rfl, ?_⟩
      refine iteF2 rfl ?_
      refine ⟨_, rfl, z, rfl, small_line hz, _, _, rfl, rfl, _, rfl, ?_⟩
      by_cases h4 : (400 : Int) < (z.length : Int)
      · refine iteT2 (decide_eq_true h4) ?_
        have e : textB z = false := by
          have y : ¬ z.length ≤ 400 := by omega
          unfold textB
          rw [decide_eq_false y]
          rfl
        rw [e] at k
        exact k H (Same.refl H)
      · refine iteF2 (decide_eq_false h4) ?_
        have e : textB z = z.cps.toList.all fun c => decide (32 ≤ c) && (decide (c ≤ 126) && decide (c ≠ 37)) := by
          have y : z.length ≤ 400 := by omega
          unfold textB
          rw [decide_eq_true y, Bool.true_and]
        rw [e] at k
        refine all_read rfl rfl rfl (by simpa [Str.length] using hz) (fun σ' H' c Q' h1 q => ?_) k
        refine ⟨_, h1, _, _, rfl, rfl, !decide (([c] : List Nat) < [32]), rfl, ?_⟩
        rw [sign_lt]
        by_cases c1 : c < 32
        · have e1 : decide (32 ≤ c) = false := decide_eq_false (by omega)
          rw [e1] at q
          rw [decide_eq_true c1]
          exact ⟨false, rfl, q⟩
        · have e1 : decide (32 ≤ c) = true := decide_eq_true (by omega)
          rw [e1, Bool.true_and] at q
          rw [decide_eq_false c1]
          refine ⟨_, _, rfl, rfl, !decide (([126] : List Nat) < [c]), rfl, ?_⟩
          rw [sign_lt]
          by_cases c2 : 126 < c
          · have e2 : decide (c ≤ 126) = false := decide_eq_false (by omega)
            rw [e2] at q
            rw [decide_eq_true c2]
            exact q
          · have e2 : decide (c ≤ 126) = true := decide_eq_true (by omega)
            rw [e2, Bool.true_and] at q
            rw [decide_eq_false c2]
            refine ⟨_, h1, _, rfl, rfl, rfl, ?_⟩
            have e3 : (!decide (V.int ((c : Nat) : Int) = V.int 37)) = decide (c ≠ 37) := by
              by_cases c3 : c = 37
              · subst c3; rfl
              · have y : V.int ((c : Nat) : Int) ≠ V.int 37 := fun z => by
                  have z2 := V.int.inj z
                  omega
                rw [decide_eq_false y, decide_eq_true c3]
                rfl
            rw [← e3] at q
            exact q
    · refine ⟨_, rfl, _, _, _, _, false, rfl, .ty "str", ty, ki, false, rfl, ?_⟩
      refine iteT2 rfl ?_
      refine iteT2 rfl ?_
      exact k H (Same.refl H)
theorem ok_is_key (T : TX K mg) : FnG w K mg base CX0 2 (a_is_key K) P_is_key [] (spKey K) := by
  obtain ⟨fd, F⟩ := T.D_is_key
  obtain ⟨fn, dn, GN, bN, vN, kN⟩ := ok_is_name (w := w) (base := base) T
  cases vN
  refine ⟨fd, [], F.ok sc_is_key (fun vs H Q E h => ?_) (fun cdv A outer s H vs Q E hr h => ?_), F.bindsN fun _ _ _ _ _ _ us hl => match us, hl with | [_], _ => rfl, .nil, F.kp⟩
  · obtain ⟨v, r, rfl, _⟩ := h
    rfl
  · obtain ⟨v, r, rfl, hv, k⟩ := h
    refine ⟨_, pss_one (ps_ret (pe_and (pe_callB call_isi (by rfl) T.n_isinstance (by decide +kernel) (pa_cons (pv 0) (pa_cons (pe_bltn (by rfl) T.n_tuple (by decide +kernel) (show RelV (.ty "tuple") (.type "tuple") from rfl)) pa_nil)))
      (pe_and (pe_cmpR op_eq (pe_callB call_len_seq (by rfl) T.n_len boot_len (pa_cons (pv 0) pa_nil)) pe_int (nomark _))
      (pe_and (pe_call GN hr (by rfl) T.g_is_name kN bN .nil pass0 (pa_cons (pe_ix ix_tup (pv 0) pe_int (fun _ _ => rfl)) pa_nil))
      (pe_one (pe_call GN hr (by rfl) T.g_is_name kN bN .nil pass0 (pa_cons (pe_ix ix_tup (pv 0) pe_int (fun _ _ => rfl)) pa_nil))))))), ?_⟩
    rcases hv with ⟨⟨u, ty, ki⟩, rfl⟩ | ⟨a, xs, rfl, hs, ty, hc⟩
    · refine ⟨_, rfl, _, _, _, _, false, rfl, .ty "tuple", ty, ki, false, rfl, ?_⟩
      refine iteF2 rfl ?_
      exact k H (Same.refl H)
    · refine ⟨_, rfl, _, _, _, _, true, rfl, .ty "tuple", ty, kit_ty (by decide +kernel), true, rfl, ?_⟩
      refine iteT2 rfl ?_
      refine ⟨_, rfl, a, xs, rfl, .inr hs, rfl, _, rfl, ?_⟩
      rcases hc with ⟨n2, rfl⟩ | ⟨x, y, r1, r2, rfl, h1, h2, rfl⟩
      · refine iteF2 (decide_eq_false fun z => n2 (by have z2 := V.int.inj z; omega)) ?_
        exact k H (Same.refl H)
      · refine iteT2 rfl ?_
        refine ⟨_, rfl, a, [x, y], 0, x, rfl, rfl, hs, rfl, x, r1, rfl, h1, fun H1 s1 => ⟨r1, rfl, ?_⟩⟩
        cases r1 with
        | false => exact iteF2 rfl (k H1 s1)
        | true =>
          refine iteT2 rfl ?_
          refine ⟨_, rfl, a, [x, y], 1, y, rfl, rfl, hs.ext s1, rfl, y, r2, rfl, h2.same s1, fun H2 s2 => ?_⟩
          exact k H2 (s1.trans s2)
end
end K98
/-! K98Edit -/
set_option Elab.async false
set_option linter.all false
set_option maxRecDepth 100000
set_option maxHeartbeats 4000000
namespace K98
open PySem PySem.Spec PyProof.Rows L2
def TgtV (K : Fg) (H : Hp) (v : V) (r : Bool) : Prop := ∃ u, TyX K H v u ∧ PySem.W.kitOne K u (.ref (He.ga K "Target")) = some r
/-- is_edit's answer for (z, ..xs) -/
inductive EditR (K : Fg) (H : Hp) : Str → List V → Bool → Prop where
  | put {x y : V} {r1 r2 : Bool} (h1 : NameV K H x r1) (h2 : TgtV K H y r2) : EditR K H "put" [x, y] (r1 && r2)
  | without {x : V} {r : Bool} (h : NameV K H x r) : EditR K H "without" [x] r
  | write {x y t : V} {r1 r2 r3 : Bool} (h1 : NameV K H x r1) (h2 : NameV K H y r2) (h3 : TextV K H t r3) : EditR K H "write" [x, y, t] (r1 && (r2 && r3))
  | erase {x y : V} {r1 r2 : Bool} (h1 : NameV K H x r1) (h2 : NameV K H y r2) : EditR K H "erase" [x, y] (r1 && r2)
  | other {z : Str} {xs : List V} (h1 : ¬ (z = "put" ∧ xs.length = 2)) (h2 : ¬ (z = "without" ∧ xs.length = 1)) (h3 : ¬ (z = "write" ∧ xs.length = 3)) (h4 : ¬ (z = "erase" ∧ xs.length = 2)) : EditR K H z xs false
def spEdit (K : Fg) : Sp := fun vs H Q _ => ∃ a z xs r, vs = [.ref a] ∧ SqT K H a (.str z :: xs) ∧ EditR K H z xs r ∧ ∀ H', Same H H' → Q (.bl r) H'
section
variable {w : World} {K : Fg} {mg : Str → Option Value} {base : Heap}
theorem at0 {x : V} {xs : List V} : atI (x :: xs) 0 = some x := atI_nat (j := 0) rfl
/-- t[0] == s and len(t) == m -/
theorem head_test {K : Fg} {a : Addr} {z : Str} {xs : List V} {s : Str} {m : Int} {σ : St} {H : Hp} {Q : Bool → Hp → Prop} (b : Bool) (h0 : σ[0]? = some (some (.ref a))) (hs : SqT K H a (.str z :: xs)) (hb : (decide (z = s) && decide (((xs.length + 1 : Nat) : Int) = m)) = b) (q : Q b H) :
    tTest (tOp rEq (tOp (rIxT K) (tVar 0) (tC (.int 0))) (tC (.str s))) σ H (fun c H1 => if c = true then tTest (tOp rEq (tCB (fun xs H_1 Q => ∃ p ys, xs = [V.ref p] ∧ (SqL K H_1 p ys ∨ SqT K H_1 p ys) ∧ Q (V.int ↑ys.length) H_1) (tCons (tVar 0) tNil)) (tC (.int m))) σ H1 Q else Q false H1) := by
  refine ⟨_, h0, a, _, 0, .str z, rfl, rfl, hs, at0, rfl, _, rfl, ?_⟩
  by_cases c : z = s
  · subst c
    refine iteT2 (decide_eq_true rfl) ?_
    refine ⟨_, h0, a, _, rfl, .inr hs, rfl, _, rfl, ?_⟩
    have e : decide (V.int (((V.str z :: xs).length : Nat) : Int) = V.int m) = b := by
      rw [← hb, decide_eq_true rfl, Bool.true_and]
      apply decide_eq_decide.mpr
      constructor
      · intro y
        have y2 := V.int.inj y
        simpa using y2
      · intro y
        congr 1
    have q2 : Q (decide (V.int (((V.str z :: xs).length : Nat) : Int) = V.int m)) H := by rw [e]; exact q
    exact q2
  · have e : b = false := by rw [← hb, decide_eq_false c]; rfl
    subst e
    exact iteF2 (decide_eq_false fun y => c (V.str.inj y)) q
theorem no_test {z s : Str} {n : Nat} {m : Nat} (h : ¬ (z = s ∧ n = m)) : (decide (z = s) && decide (((n + 1 : Nat) : Int) = ((m + 1 : Nat) : Int))) = false := by
  by_cases c : z = s
  · have y : ¬ n = m := fun y => h ⟨c, y⟩
    rw [decide_eq_false (show ¬ (((n + 1 : Nat) : Int) = ((m + 1 : Nat) : Int)) by omega), Bool.and_false]
  · rw [decide_eq_false c, Bool.false_and]
theorem str_ne {a b : Str} (h : decide (a = b) = false) {n m : Nat} : ¬ (a = b ∧ n = m) := fun y => absurd y.1 (of_decide_eq_false h)
theorem ok_is_edit (T : TX K mg) : FnG w K mg base CX0 2 (a_is_edit K) P_is_edit [] (spEdit K) := by
  obtain ⟨fd, F⟩ := T.D_is_edit
  obtain ⟨fn, dn, GN, bN, vN, kN⟩ := ok_is_name (w := w) (base := base) T
  obtain ⟨ft, dt, GT, bT, vT, kT⟩ := ok_is_text (w := w) (base := base) T
  cases vN
  cases vT
  refine ⟨fd, [], F.ok sc_is_edit (fun vs H Q E h => ?_) (fun cdv A outer s H vs Q E hr h => ?_), F.bindsN fun _ _ _ _ _ _ us hl => match us, hl with | [_], _ => rfl, .nil, F.kp⟩
  · obtain ⟨a, z, xs, r, rfl, _⟩ := h
    rfl
  · obtain ⟨a, z, xs, r, rfl, hs, he, k⟩ := h
    refine ⟨_, pss_cons (ps_if (PW.pt (pw_and (pt_cmpR op_eq (pe_ix ix_tup (pv 0) pe_int (fun _ _ => rfl)) pe_str (nomark _)) (pw_and1 (pt_cmpR op_eq (pe_callB call_len_seq (by rfl) T.n_len boot_len (pa_cons (pv 0) pa_nil)) pe_int (nomark _)))))
        (pss_one (ps_ret (pe_and (pe_call GN hr (by rfl) T.g_is_name kN bN .nil pass0 (pa_cons (pe_ix ix_tup (pv 0) pe_int (fun _ _ => rfl)) pa_nil))
          (pe_one (pe_callB call_isi (by rfl) T.n_isinstance (by decide +kernel) (pa_cons (pe_ix ix_tup (pv 0) pe_int (fun _ _ => rfl)) (pa_cons (pe_glob (by rfl) T.g_Target (show RelV (.ref (He.ga K "Target")) (.ref (He.ga K "Target")) from rfl)) pa_nil))))))) pss_nil)
      (pss_cons (ps_if (PW.pt (pw_and (pt_cmpR op_eq (pe_ix ix_tup (pv 0) pe_int (fun _ _ => rfl)) pe_str (nomark _)) (pw_and1 (pt_cmpR op_eq (pe_callB call_len_seq (by rfl) T.n_len boot_len (pa_cons (pv 0) pa_nil)) pe_int (nomark _)))))
        (pss_one (ps_ret (pe_call GN hr (by rfl) T.g_is_name kN bN .nil pass0 (pa_cons (pe_ix ix_tup (pv 0) pe_int (fun _ _ => rfl)) pa_nil)))) pss_nil)
      (pss_cons (ps_if (PW.pt (pw_and (pt_cmpR op_eq (pe_ix ix_tup (pv 0) pe_int (fun _ _ => rfl)) pe_str (nomark _)) (pw_and1 (pt_cmpR op_eq (pe_callB call_len_seq (by rfl) T.n_len boot_len (pa_cons (pv 0) pa_nil)) pe_int (nomark _)))))
        (pss_one (ps_ret (pe_and (pe_call GN hr (by rfl) T.g_is_name kN bN .nil pass0 (pa_cons (pe_ix ix_tup (pv 0) pe_int (fun _ _ => rfl)) pa_nil))
          (pe_and (pe_call GN hr (by rfl) T.g_is_name kN bN .nil pass0 (pa_cons (pe_ix ix_tup (pv 0) pe_int (fun _ _ => rfl)) pa_nil))
          (pe_one (pe_call GT hr (by rfl) T.g_is_text kT bT .nil pass0 (pa_cons (pe_ix ix_tup (pv 0) pe_int (fun _ _ => rfl)) pa_nil))))))) pss_nil)
      (pss_one (ps_ret (pe_and (pe_cmpR op_eq (pe_ix ix_tup (pv 0) pe_int (fun _ _ => rfl)) pe_str (nomark _)) (pe_and (pe_cmpR op_eq (pe_callB call_len_seq (by rfl) T.n_len boot_len (pa_cons (pv 0) pa_nil)) pe_int (nomark _))
        (pe_and (pe_call GN hr (by rfl) T.g_is_name kN bN .nil pass0 (pa_cons (pe_ix ix_tup (pv 0) pe_int (fun _ _ => rfl)) pa_nil))
        (pe_one (pe_call GN hr (by rfl) T.g_is_name kN bN .nil pass0 (pa_cons (pe_ix ix_tup (pv 0) pe_int (fun _ _ => rfl)) pa_nil)))))))))), ?_⟩
    -- the tests ahead of the one that is taken
    cases he with
    | @put x y r1 r2 h1 h2 =>
      refine head_test true rfl hs (by show (decide (("put" : Str) = "put") && decide (((3 : Nat) : Int) = 3)) = true; decide +kernel) (iteT2 rfl ?_)
      refine ⟨_, rfl, a, _, 1, x, rfl, rfl, hs, rfl, x, r1, rfl, h1, fun H1 s1 => ⟨r1, rfl, ?_⟩⟩
      cases r1 with
      | false => exact iteF2 rfl (k H1 s1)
      | true =>
        obtain ⟨u, ty, ki⟩ := h2
        refine iteT2 rfl ?_
        exact ⟨_, rfl, a, _, 2, y, rfl, rfl, hs.ext s1, rfl, _, _, _, _, r2, rfl, .own _, TyX.same s1 ty, ki, k H1 s1⟩
    | @without x r h1 =>
      refine head_test false rfl hs (by show (decide (("without" : Str) = "put") && decide (((2 : Nat) : Int) = 3)) = false; decide +kernel) (iteF2 rfl ?_)
      refine head_test true rfl hs (by show (decide (("without" : Str) = "without") && decide (((2 : Nat) : Int) = 2)) = true; decide +kernel) (iteT2 rfl ?_)
      exact ⟨_, rfl, a, _, 1, x, rfl, rfl, hs, rfl, x, r, rfl, h1, k⟩
    | @write x y t r1 r2 r3 h1 h2 h3 =>
      refine head_test false rfl hs (by show (decide (("write" : Str) = "put") && decide (((4 : Nat) : Int) = 3)) = false; decide +kernel) (iteF2 rfl ?_)
      refine head_test false rfl hs (by show (decide (("write" : Str) = "without") && decide (((4 : Nat) : Int) = 2)) = false; decide +kernel) (iteF2 rfl ?_)
      refine head_test true rfl hs (by show (decide (("write" : Str) = "write") && decide (((4 : Nat) : Int) = 4)) = true; decide +kernel) (iteT2 rfl ?_)
      refine ⟨_, rfl, a, _, 1, x, rfl, rfl, hs, rfl, x, r1, rfl, h1, fun H1 s1 => ⟨r1, rfl, ?_⟩⟩
      cases r1 with
      | false => exact iteF2 rfl (k H1 s1)
      | true =>
        refine iteT2 rfl ?_
        refine ⟨_, rfl, a, _, 2, y, rfl, rfl, hs.ext s1, rfl, y, r2, rfl, h2.same s1, fun H2 s2 => ⟨r2, rfl, ?_⟩⟩
        cases r2 with
        | false => exact iteF2 rfl (k H2 (s1.trans s2))
        | true =>
          refine iteT2 rfl ?_
          exact ⟨_, rfl, a, _, 3, t, rfl, rfl, hs.ext (s1.trans s2), rfl, t, r3, rfl, h3.same (s1.trans s2), fun H3 s3 => k H3 ((s1.trans s2).trans s3)⟩
    | @erase x y r1 r2 h1 h2 =>
      refine head_test false rfl hs (by show (decide (("erase" : Str) = "put") && decide (((3 : Nat) : Int) = 3)) = false; decide +kernel) (iteF2 rfl ?_)
      refine head_test false rfl hs (by show (decide (("erase" : Str) = "without") && decide (((3 : Nat) : Int) = 2)) = false; decide +kernel) (iteF2 rfl ?_)
      refine head_test false rfl hs (by show (decide (("erase" : Str) = "write") && decide (((3 : Nat) : Int) = 4)) = false; decide +kernel) (iteF2 rfl ?_)
      refine ⟨_, rfl, a, _, 0, .str "erase", rfl, rfl, hs, at0, rfl, _, rfl, iteT2 rfl ?_⟩
      refine ⟨_, rfl, a, _, rfl, .inr hs, rfl, _, rfl, iteT2 rfl ?_⟩
      refine ⟨_, rfl, a, _, 1, x, rfl, rfl, hs, rfl, x, r1, rfl, h1, fun H1 s1 => ⟨r1, rfl, ?_⟩⟩
      cases r1 with
      | false => exact iteF2 rfl (k H1 s1)
      | true =>
        refine iteT2 rfl ?_
        exact ⟨_, rfl, a, _, 2, y, rfl, rfl, hs.ext s1, rfl, y, r2, rfl, h2.same s1, fun H2 s2 => k H2 (s1.trans s2)⟩
    | other g1 g2 g3 g4 =>
      refine head_test false rfl hs (no_test g1) (iteF2 rfl ?_)
      refine head_test false rfl hs (no_test g2) (iteF2 rfl ?_)
      refine head_test false rfl hs (no_test g3) (iteF2 rfl ?_)
      refine ⟨_, rfl, a, _, 0, .str z, rfl, rfl, hs, at0, rfl, _, rfl, ?_⟩
      by_cases c : z = "erase"
      · refine iteT2 (decide_eq_true (by rw [c])) ?_
        refine ⟨_, rfl, a, _, rfl, .inr hs, rfl, _, rfl, iteF2 (decide_eq_false fun y => g4 ⟨c, ?_⟩) (k H (Same.refl H))⟩
        have y2 := V.int.inj y
        have y3 : ((xs.length + 1 : Nat) : Int) = 3 := y2
        omega
      · exact iteF2 (decide_eq_false fun y => c (V.str.inj y)) (k H (Same.refl H))
end
end K98
/-! K98Data -/
set_option Elab.async false
set_option linter.all false
set_option maxRecDepth 100000
set_option maxHeartbeats 4000000
/-! what stands at a source, a project; their defs -/
namespace K98
open PySem PySem.Spec PyProof.Rows L2
abbrev KVs := List (Key × V)
abbrev kS (x : Str) : Key := Sum.inr x
abbrev kO : Key := kS "o"
abbrev kQ : Key := kS "q"
/-- a source's outputs -/
def OkO (o : KVs) : Prop := (o.map (·.1)).Nodup ∧ o.length ≤ 2 ∧ ∀ p ∈ o, (p.1 = kO ∨ p.1 = kQ) ∧ ∃ z : Str, p.2 = .str z
structure SrcAt (K : Fg) (H : Hp) (a : Addr) (o : KVs) : Prop where
  ins : ∃ dx g, H a = some (.ins (cSrc K) dx [("given", .ref g)]) ∧ H g = some (.dK o)
  ok : OkO o
def pKeys : List Key := [kS "h", kS "n", kS "a1", kS "w"]
structure ProjAt (K : Fg) (H : Hp) (p : Addr) (ks : KVs) : Prop where
  ins : ∃ dx d, H p = some (.ins (cPrj K) dx [("kept", .ref d)]) ∧ H d = some (.dK ks)
  nd : (ks.map (·.1)).Nodup
  keys : ∀ e ∈ ks, e.1 ∈ pKeys
  len : ks.length ≤ 4
  src : ∀ e ∈ ks, ∃ s o, e.2 = .ref s ∧ SrcAt K H s o
section
variable {w : World} {K : Fg} {mg : Str → Option Value} {base : Heap}
theorem SrcAt.same {H H' : Hp} {a : Addr} {o : KVs} (s : SrcAt K H a o) (e : Same H H') : SrcAt K H' a o := ⟨let ⟨dx, g, h1, h2⟩ := s.ins; ⟨dx, g, e _ _ h1, e _ _ h2⟩, s.ok⟩
theorem ProjAt.same {H H' : Hp} {p : Addr} {ks : KVs} (s : ProjAt K H p ks) (e : Same H H') : ProjAt K H' p ks :=
  ⟨let ⟨dx, g, h1, h2⟩ := s.ins; ⟨dx, g, e _ _ h1, e _ _ h2⟩, s.nd, s.keys, s.len, fun x hx => let ⟨a, o, e1, h⟩ := s.src x hx; ⟨a, o, e1, h.same e⟩⟩
/-- an instance of some attributes (the session) -/
def Big (H : Hp) (S : Addr) : Prop := ∃ C dx fs, H S = some (.ins C dx fs) ∧ 2 ≤ fs.length
/-- what the session's calls leave as it was: all but the session's object and its past -/
def Keep (S L : Addr) (H H' : Hp) : Prop := ∀ b o, b ≠ S → b ≠ L → H b = some o → H' b = some o
theorem Keep.of_same {S L : Addr} {H H' : Hp} (e : Same H H') : Keep S L H H' := fun b o _ _ h => e b o h
theorem Keep.trans {S L : Addr} {H H1 H2 : Hp} (a : Keep S L H H1) (b : Keep S L H1 H2) : Keep S L H H2 := fun c o h1 h2 h => b c o h1 h2 (a c o h1 h2 h)
theorem SrcAt.keep {S L : Addr} {H H' : Hp} {a : Addr} {o : KVs} {xs : List V} (s : SrcAt K H a o) (k : Keep S L H H') (hS : Big H S) (hL : H L = some (.lst xs)) : SrcAt K H' a o := by
  obtain ⟨⟨dy, g, h1, h2⟩, ok⟩ := s
  obtain ⟨C, dx, fs, hS, hl⟩ := hS
  refine ⟨⟨dy, g, k _ _ (ne_of h1 hS ?_) (ne_of h1 hL (by intro z; cases z)) h1, k _ _ (ne_of h2 hS (by intro z; cases z)) (ne_of h2 hL (by intro z; cases z)) h2⟩, ok⟩
  intro z
  rw [← (HO.ins.inj z).2.2] at hl
  exact absurd hl (by show ¬ (2 ≤ 1); decide)
theorem ProjAt.keep {S L : Addr} {H H' : Hp} {p : Addr} {ks : KVs} {xs : List V} (s : ProjAt K H p ks) (k : Keep S L H H') (hS : Big H S) (hL : H L = some (.lst xs)) : ProjAt K H' p ks := by
  obtain ⟨⟨dy, g, h1, h2⟩, nd, ky, ln, sr⟩ := s
  obtain ⟨C, dx, fs, hS', hl⟩ := id hS
  refine ⟨⟨dy, g, k _ _ (ne_of h1 hS' ?_) (ne_of h1 hL (by intro z; cases z)) h1, k _ _ (ne_of h2 hS' (by intro z; cases z)) (ne_of h2 hL (by intro z; cases z)) h2⟩, nd, ky, ln, fun e he => ?_⟩
  · intro z
    rw [← (HO.ins.inj z).2.2] at hl
    exact absurd hl (by show ¬ (2 ≤ 1); decide)
  · obtain ⟨a, o, e1, h⟩ := sr e he
    exact ⟨a, o, e1, h.keep k hS hL⟩
/-! ### Source -/
def spSrcInit (K : Fg) : Sp := fun vs H Q _ => ∃ (x dx g : Addr) (o : KVs), vs = [.ref x, .ref g] ∧ H x = some (.ins (cSrc K) dx []) ∧ Rd H g (.dK o) ∧ g ≠ x ∧
  ∀ p, H p = none → Q .non (upd (upd H p (.dK o)) x (.ins (cSrc K) dx [("given", .ref p)]))
theorem ok_src_init (T : TX K mg) : FnG w K mg base CX0 1 (a_Source_init K) P_Source_init [] (spSrcInit K) := by
  obtain ⟨fd, F⟩ := T.D_Source_init
  refine ⟨fd, [], F.ok sc_Source_init (fun vs H Q E h => ?_) (fun cdv A outer s H vs Q E hr h => ?_), F.bindsN fun _ _ _ _ _ _ us hl => match us, hl with | [_, _], _ => rfl, .nil, F.kp⟩
  · obtain ⟨x, dx, g, o, rfl, _⟩ := h
    rfl
  · obtain ⟨x, dx, g, o, rfl, hx, hg, ne, k⟩ := h
    refine ⟨_, pss_one (ps_fld (pv 0) (pe_callTy call_dictD (by rfl) T.n_dict (by decide +kernel) (pa_cons (pv 1) pa_nil)) rfl), ?_⟩
    refine ⟨_, rfl, g, o, rfl, hg, fun p hp => ?_⟩
    refine ⟨_, rfl, x, cSrc K, dx, [], rfl, (by rw [upd_ne (ne_of_none hx hp)]; exact hx), T.c_Source, T.at_Source_given, (by show 0 < 1000; decide), ?_⟩
    exact k p hp
/-- outputs: a copy of the dict -/
def spOutputs (K : Fg) : Sp := fun vs H Q _ => ∃ (x : Addr) (o : KVs), vs = [.ref x] ∧ SrcAt K H x o ∧ ∀ p, H p = none → Q (.ref p) (upd H p (.dK o))
theorem ok_outputs (T : TX K mg) : FnG w K mg base CX0 1 (a_Source_outputs K) P_Source_outputs [] (spOutputs K) := by
  obtain ⟨fd, F⟩ := T.D_Source_outputs
  refine ⟨fd, [], F.ok sc_Source_outputs (fun vs H Q E h => ?_) (fun cdv A outer s H vs Q E hr h => ?_), F.bindsN fun _ _ _ _ _ _ us hl => match us, hl with | [_], _ => rfl, .nil, F.kp⟩
  · obtain ⟨x, o, rfl, _⟩ := h
    rfl
  · obtain ⟨x, o, rfl, ⟨⟨dx, g, h1, h2⟩, ok⟩, k⟩ := h
    refine ⟨_, pss_one (ps_ret (pe_callTy call_dictD (by rfl) T.n_dict (by decide +kernel) (pa_cons (pe_fld (pv 0) rfl) pa_nil))), ?_⟩
    exact ⟨_, rfl, x, cSrc K, dx, _, _, rfl, h1, T.c_Source, T.at_Source_given, rfl, g, o, rfl, .inl h2, k⟩
/-- Source == Source -/
def spSrcEq (K : Fg) : Sp := fun vs H Q _ => ∃ (x y : Addr) (o u : KVs), vs = [.ref x, .ref y] ∧ SrcAt K H x o ∧ SrcAt K H y u ∧ ∀ r, TellV o u GFl r → Q (.bl r) H
theorem ok_src_eq (T : TX K mg) : FnG w K mg base CX0 2 (a_Source_eq K) P_Source_eq [] (spSrcEq K) := by
  obtain ⟨fd, F⟩ := T.D_Source_eq
  refine ⟨fd, [], F.ok sc_Source_eq (fun vs H Q E h => ?_) (fun cdv A outer s H vs Q E hr h => ?_), F.bindsN fun _ _ _ _ _ _ us hl => match us, hl with | [_, _], _ => rfl, .nil, F.kp⟩
  · obtain ⟨x, y, o, u, rfl, _⟩ := h
    rfl
  · obtain ⟨x, y, o, u, rfl, ⟨⟨dx, g, h1, h2⟩, ok⟩, ⟨⟨dy, g', h3, h4⟩, ok'⟩, k⟩ := h
    refine ⟨_, pss_one (ps_ret (pe_and (pe_callB call_isi (by rfl) T.n_isinstance (by decide +kernel) (pa_cons (pv 1) (pa_cons (pe_glob (by rfl) T.g_Source (show RelV (.ref (cSrc K)) (.ref (cSrc K)) from rfl)) pa_nil)))
      (pe_one (pe_cmpR (op_eqK (n := 0) (D := DFl) (G := GFl) eqB_flat hr) (pe_fld (pv 0) rfl) (pe_fld (pv 1) rfl) (nomark _))))), ?_⟩
    refine ⟨_, rfl, _, _, _, _, true, rfl, .own _, T.ty_src h3, T.k_ss, true, rfl, iteT2 rfl ?_⟩
    refine ⟨_, rfl, x, cSrc K, dx, _, _, rfl, h1, T.c_Source, T.at_Source_given, rfl, _, rfl, y, cSrc K, dy, _, _, rfl, h3, T.c_Source, T.at_Source_given, rfl, ?_⟩
    refine ⟨g, g', o, u, rfl, rfl, h2, h4, fun p hp z hz oa ob => ?_, k⟩
    obtain ⟨_, s1, e1⟩ := ok.2.2 p hp
    have hz2 : ∃ s2 : Str, z = .str s2 := by
      unfold valV at hz
      cases e : u.find? fun kv => decide (kv.1 = p.1) with
      | none => rw [e] at hz; cases hz
      | some q =>
        rw [e] at hz
        obtain ⟨_, s2, e2⟩ := ok'.2.2 q (List.mem_of_find?_eq_some e)
        exact ⟨s2, by rw [← e2]; exact (Option.some.inj hz).symm⟩
    obtain ⟨s2, e2⟩ := hz2
    rw [e1, e2]
    exact ⟨rfl, rfl⟩
end
end K98
/-! K98Proj -/
set_option Elab.async false
set_option linter.all false
set_option maxRecDepth 100000
set_option maxHeartbeats 4000000
/-! Project's defs -/
namespace K98
open PySem PySem.Spec PyProof.Rows L2
section
variable {w : World} {K : Fg} {mg : Str → Option Value} {base : Heap}
/-- pairs with a key once only -/
theorem valV_mem {ks : KVs} {k : Key} {v : V} (h : valV ks k = some v) : (k, v) ∈ ks := by
  unfold valV at h
  cases e : ks.find? fun kv => decide (kv.1 = k) with
  | none => rw [e] at h; cases h
  | some q =>
    rw [e] at h
    have e1 : q.1 = k := by
      have y := List.find?_some e
      simpa using y
    have e2 : q.2 = v := Option.some.inj h
    rw [← e1, ← e2]
    exact List.mem_of_find?_eq_some e
theorem valV_self {ks : KVs} (nd : (ks.map (·.1)).Nodup) {k : Key} {v : V} (h : (k, v) ∈ ks) : valV ks k = some v := by
  unfold valV
  induction ks with
  | nil => cases h
  | cons p r ih =>
    rw [List.map_cons, List.nodup_cons] at nd
    rcases List.mem_cons.mp h with e | h
    · subst e
      simp
    · have ne : ¬ p.1 = k := fun e => nd.1 (List.mem_map.mpr ⟨(k, v), h, e.symm⟩)
      rw [List.find?_cons, decide_eq_false ne]
      exact ih nd.2 h
theorem putK_mem {ks : KVs} {k : Key} {v : V} {e : Key × V} (h : e ∈ putK ks k v) : e ∈ ks ∨ e = (k, v) := by
  unfold putK at h
  split at h
  · obtain ⟨q, hq, eq⟩ := List.mem_map.mp h
    split at eq
    · rename_i c
      exact .inr (by rw [← eq, c])
    · exact .inl (by rw [← eq]; exact hq)
  · rcases List.mem_append.mp h with h | h
    · exact .inl h
    · exact .inr (by simpa using h)
theorem putK_keys {ks : KVs} {k : Key} {v : V} (h : ¬ (valV ks k).isSome = true) : putK ks k v = ks ++ [(k, v)] := by
  unfold putK
  rw [if_neg]
  intro y
  obtain ⟨q, hq, e⟩ := List.any_eq_true.mp y
  apply h
  unfold valV
  rw [Option.isSome_map]
  rw [List.find?_isSome]
  exact ⟨q, hq, e⟩
theorem putK_nd {ks : KVs} (nd : (ks.map (·.1)).Nodup) (k : Key) (v : V) : ((putK ks k v).map (·.1)).Nodup := by
  unfold putK
  split
  · have e : (ks.map fun kv => if kv.1 = k then (kv.1, v) else kv).map (·.1) = ks.map (·.1) := by
      rw [List.map_map]
      apply List.map_congr_left
      intro q _
      show (if q.1 = k then (q.1, v) else q).1 = q.1
      split <;> rfl
    rw [e]
    exact nd
  · rename_i h
    rw [List.map_append, List.nodup_append]
    refine ⟨nd, by simp, fun a ha b hb => ?_⟩
    simp only [List.map_cons, List.map_nil, List.mem_singleton] at hb
    subst hb
    rintro rfl
    obtain ⟨q, hq, e⟩ := List.mem_map.mp ha
    exact h (List.any_eq_true.mpr ⟨q, hq, decide_eq_true e⟩)
theorem len_keys {ks : KVs} (nd : (ks.map (·.1)).Nodup) (sub : ∀ e ∈ ks, e.1 ∈ pKeys) : ks.length ≤ 4 := by
  have h : (ks.map (·.1)).length ≤ pKeys.length := nd.length_le_of_subset fun k hk => by
    obtain ⟨e, he, q⟩ := List.mem_map.mp hk
    rw [← q]
    exact sub e he
  rw [List.length_map] at h
  exact h
theorem ProjAt.put {H : Hp} {p q : Addr} {ks : KVs} {k : Key} {s : Addr} {o : KVs} (A : ProjAt K H p ks) (hk : k ∈ pKeys) (hs : SrcAt K H s o) (hq : ∃ dx d, H q = some (.ins (cPrj K) dx [("kept", .ref d)]) ∧ H d = some (.dK (putK ks k (.ref s)))) : ProjAt K H q (putK ks k (.ref s)) := by
  have kk : ∀ e ∈ putK ks k (.ref s), e.1 ∈ pKeys := fun e he => by
    rcases putK_mem he with h | h
    · exact A.keys e h
    · rw [h]
      exact hk
  refine ⟨hq, putK_nd A.nd _ _, kk, len_keys (putK_nd A.nd _ _) kk, fun e he => ?_⟩
  rcases putK_mem he with h | h
  · exact A.src e h
  · rw [h]
    exact ⟨s, o, rfl, hs⟩
theorem ProjAt.drop {H : Hp} {p q : Addr} {ks : KVs} {k : Key} (A : ProjAt K H p ks) (hq : ∃ dx d, H q = some (.ins (cPrj K) dx [("kept", .ref d)]) ∧ H d = some (.dK (dropK ks k))) : ProjAt K H q (dropK ks k) := by
  have sub : ∀ e ∈ dropK ks k, e ∈ ks := fun e he => (List.mem_filter.mp he).1
  refine ⟨hq, ?_, fun e he => A.keys e (sub e he), Nat.le_trans (List.length_filter_le _ _) A.len, fun e he => A.src e (sub e he)⟩
  exact A.nd.sublist ((List.filter_sublist).map _)
theorem small_keys {ks : KVs} (h : ks.length ≤ 4) : ks.length < sizeLine := by
  rw [sizeLine_eq]
  omega
/-! ### __init__, in, [], == -/
def spPrjInit (K : Fg) : Sp := fun vs H Q _ => ∃ (x dx g : Addr) (o : KVs), vs = [.ref x, .ref g] ∧ H x = some (.ins (cPrj K) dx []) ∧ Rd H g (.dK o) ∧ g ≠ x ∧
  ∀ p, H p = none → Q .non (upd (upd H p (.dK o)) x (.ins (cPrj K) dx [("kept", .ref p)]))
theorem ok_prj_init (T : TX K mg) : FnG w K mg base CX0 1 (a_Project_init K) P_Project_init [] (spPrjInit K) := by
  obtain ⟨fd, F⟩ := T.D_Project_init
  refine ⟨fd, [], F.ok sc_Project_init (fun vs H Q E h => ?_) (fun cdv A outer s H vs Q E hr h => ?_), F.bindsN fun _ _ _ _ _ _ us hl => match us, hl with | [_, _], _ => rfl, .nil, F.kp⟩
  · obtain ⟨x, dx, g, o, rfl, _⟩ := h
    rfl
  · obtain ⟨x, dx, g, o, rfl, hx, hg, ne, k⟩ := h
    refine ⟨_, pss_one (ps_fld (pv 0) (pe_callTy call_dictD (by rfl) T.n_dict (by decide +kernel) (pa_cons (pv 1) pa_nil)) rfl), ?_⟩
    refine ⟨_, rfl, g, o, rfl, hg, fun p hp => ?_⟩
    refine ⟨_, rfl, x, cPrj K, dx, [], rfl, (by rw [upd_ne (ne_of_none hx hp)]; exact hx), T.c_Project, T.at_Project_kept, (by show 0 < 1000; decide), ?_⟩
    exact k p hp
def spPrjIn (K : Fg) : Sp := fun vs H Q _ => ∃ (p : Addr) (ks : KVs) (z : Str), vs = [.ref p, .str z] ∧ ProjAt K H p ks ∧ Q (.bl (valV ks (kS z)).isSome) H
theorem ok_prj_in (T : TX K mg) : FnG w K mg base CX0 1 (a_Project_contains K) P_Project_contains [] (spPrjIn K) := by
  obtain ⟨fd, F⟩ := T.D_Project_contains
  refine ⟨fd, [], F.ok sc_Project_contains (fun vs H Q E h => ?_) (fun cdv A outer s H vs Q E hr h => ?_), F.bindsN fun _ _ _ _ _ _ us hl => match us, hl with | [_, _], _ => rfl, .nil, F.kp⟩
  · obtain ⟨p, ks, z, rfl, _⟩ := h
    rfl
  · obtain ⟨p, ks, z, rfl, A, k⟩ := h
    obtain ⟨dx, d, h1, h2⟩ := A.ins
    refine ⟨_, pss_one (ps_ret (pe_cmp (pc_din (hu_of hr) (pv 1) (pe_fld (pv 0) rfl)) rfl)), ?_⟩
    exact ⟨_, rfl, _, rfl, p, cPrj K, dx, _, _, rfl, h1, T.c_Project, T.at_Project_kept, rfl, d, _, rfl, DGet.k (k := kS z) h2, k⟩
def spPrjGet (K : Fg) : Sp := fun vs H Q _ => ∃ (p : Addr) (ks : KVs) (z : Str) (v : V), vs = [.ref p, .str z] ∧ ProjAt K H p ks ∧ valV ks (kS z) = some v ∧ Q v H
theorem ok_prj_get (T : TX K mg) : FnG w K mg base CX0 1 (a_Project_getitem K) P_Project_getitem [] (spPrjGet K) := by
  obtain ⟨fd, F⟩ := T.D_Project_getitem
  refine ⟨fd, [], F.ok sc_Project_getitem (fun vs H Q E h => ?_) (fun cdv A outer s H vs Q E hr h => ?_), F.bindsN fun _ _ _ _ _ _ us hl => match us, hl with | [_, _], _ => rfl, .nil, F.kp⟩
  · obtain ⟨p, ks, z, v, rfl, _⟩ := h
    rfl
  · obtain ⟨p, ks, z, v, rfl, A, hv, k⟩ := h
    obtain ⟨dx, d, h1, h2⟩ := A.ins
    refine ⟨_, pss_cons (ps_if (pt_cmp (pc_dnotin (hu_of hr) (pv 1) (pe_fld (pv 0) rfl))) (pss_one ps_never) pss_nil) (pss_one (ps_ret (pe_dget (hu_of hr) (pe_fld (pv 0) rfl) (pv 1) (fun _ _ => rfl)))), ?_⟩
    refine ⟨_, rfl, _, rfl, p, cPrj K, dx, _, _, rfl, h1, T.c_Project, T.at_Project_kept, rfl, d, _, rfl, DGet.k (k := kS z) h2, _, rfl, iteF2 (by rw [hv]; rfl) ?_⟩
    exact ⟨_, rfl, p, cPrj K, dx, _, _, rfl, h1, T.c_Project, T.at_Project_kept, rfl, _, rfl, d, v, rfl, by rw [← hv]; exact DGet.k (k := kS z) h2, k⟩
/-- what == of two projects may say -/
def GSrc : V → V → Bool → Prop := fun x y r => x = y → r = true
def spPrjEq (K : Fg) : Sp := fun vs H Q _ => ∃ (x y : Addr) (ks ls : KVs), vs = [.ref x, .ref y] ∧ ProjAt K H x ks ∧ ProjAt K H y ls ∧ ∀ r, TellV ks ls GSrc r → Q (.bl r) H
theorem tell_self {o : KVs} (nd : (o.map (·.1)).Nodup) (fl : ∀ p ∈ o, ∃ z : Str, p.2 = .str z) {r : Bool} (t : TellV o o GFl r) : r = true := by
  cases r with
  | true => rfl
  | false =>
    rcases t.2 rfl with h | ⟨p, hp, h⟩
    · exact absurd rfl h
    · have e := valV_self nd (k := p.1) (v := p.2) hp
      rw [e] at h
      rcases h with h | ⟨y, hy, g⟩
      · cases h
      · obtain ⟨z, ez⟩ := fl p hp
        have ey : p.2 = y := Option.some.inj hy
        rw [← ey, ez] at g
        have g2 : false = eqV (.str z) (.str z) := g
        have g3 : eqV (.str z) (.str z) = true := by show (z == z) = true; exact beq_self_eq_true z
        rw [g3] at g2
        cases g2
theorem ok_prj_eq (T : TX K mg) : FnG w K mg base CX0 4 (a_Project_eq K) P_Project_eq [] (spPrjEq K) := by
  obtain ⟨fd, F⟩ := T.D_Project_eq
  obtain ⟨fs, ds, GS, bS, vS, kS'⟩ := ok_src_eq (w := w) (base := base) T
  cases vS
  refine ⟨fd, [], F.ok sc_Project_eq (fun vs H Q E h => ?_) (fun cdv A outer s H vs Q E hr h => ?_), F.bindsN fun _ _ _ _ _ _ us hl => match us, hl with | [_, _], _ => rfl, .nil, F.kp⟩
  · obtain ⟨x, y, ks, ls, rfl, _⟩ := h
    rfl
  · obtain ⟨x, y, ks, ls, rfl, A, B, k⟩ := h
    obtain ⟨dx, d, h1, h2⟩ := A.ins
    obtain ⟨dy, d', h3, h4⟩ := B.ins
    refine ⟨_, pss_one (ps_ret (pe_and (pe_callB call_isi (by rfl) T.n_isinstance (by decide +kernel) (pa_cons (pv 1) (pa_cons (pe_glob (by rfl) T.g_Project (show RelV (.ref (cPrj K)) (.ref (cPrj K)) from rfl)) pa_nil)))
      (pe_one (pe_cmpR (op_eqK (n := 2) (D := DIn (cSrc K) (spSrcEq K) E0 GSrc) (G := GSrc) ((rcB_ins GS (T.m_Source_eq).1 (T.m_Source_eq).2 bS pass0).eqB (fun x y H ⟨a, b, _, _, _, _, e1, e2, _⟩ => ⟨a, b, e1, e2⟩) (fun a _ => rfl)) hr) (pe_fld (pv 0) rfl) (pe_fld (pv 1) rfl) (nomark _))))), ?_⟩
    refine ⟨_, rfl, _, _, _, _, true, rfl, .own _, T.ty_prj h3, T.k_pp, true, rfl, iteT2 rfl ?_⟩
    refine ⟨_, rfl, x, cPrj K, dx, _, _, rfl, h1, T.c_Project, T.at_Project_kept, rfl, _, rfl, y, cPrj K, dy, _, _, rfl, h3, T.c_Project, T.at_Project_kept, rfl, ?_⟩
    refine ⟨d, d', ks, ls, rfl, rfl, h2, h4, fun e he z hz oa ob => ?_, k⟩
    obtain ⟨a, o, ea, sa⟩ := A.src e he
    obtain ⟨b, u, eb, sb⟩ := B.src _ (valV_mem hz)
    have eb' : z = .ref b := eb
    have mz := valV_mem hz
    have lk : ∀ {c : Addr} {o' : KVs}, SrcAt K H c o' → SrcAt K (upd (upd H d (.frz oa (.dK ks))) d' (.frz ob (.dK ls))) c o' := fun {c o'} S => by
      obtain ⟨⟨dc, g, g1, g2⟩, ok⟩ := S
      have n1 : g ≠ d := fun y => by
        rw [y, h2] at g2
        have y2 : ks = o' := HO.dK.inj (Option.some.inj g2)
        obtain ⟨_, z', ez⟩ := ok.2.2 e (y2 ▸ he)
        rw [ea] at ez
        cases ez
      have n2 : g ≠ d' := fun y => by
        rw [y, h4] at g2
        have y2 : ls = o' := HO.dK.inj (Option.some.inj g2)
        obtain ⟨_, z', ez⟩ := ok.2.2 _ (y2 ▸ mz)
        rw [eb'] at ez
        cases ez
      refine ⟨⟨dc, g, ?_, ?_⟩, ok⟩
      · rw [upd_ne (ne_of g1 h4 (by intro z; cases z)), upd_ne (ne_of g1 h2 (by intro z; cases z))]
        exact g1
      · rw [upd_ne n2, upd_ne n1]
        exact g2
    obtain ⟨⟨da, ga, ia, ja⟩, oka⟩ := lk sa
    obtain ⟨⟨db, gb, ib, jb⟩, okb⟩ := lk sb
    refine ⟨a, b, da, db, _, _, ea, eb', ia, ib, a, b, o, u, rfl, lk sa, lk sb, fun r t => ⟨rfl, r, rfl, fun y => ?_⟩⟩
    rw [ea, eb'] at y
    have y2 : a = b := V.ref.inj y
    subst y2
    rw [ia] at ib
    have y3 := (HO.ins.inj (Option.some.inj ib)).2.2
    have y4 : ga = gb := by
      have y5 := congrArg Prod.snd (List.cons.inj y3).1
      exact V.ref.inj y5
    subst y4
    rw [ja] at jb
    have y6 : o = u := HO.dK.inj (Option.some.inj jb)
    subst y6
    exact tell_self oka.1 (fun p hp => (oka.2.2 p hp).2) t
end
end K98
/-! K98Proj2 -/
set_option Elab.async false
set_option linter.all false
set_option maxRecDepth 100000
set_option maxHeartbeats 4000000
/-! Project's names, put, without, source_outputs, write, erase -/
namespace K98
open PySem PySem.Spec PyProof.Rows L2
section
variable {w : World} {K : Fg} {mg : Str → Option Value} {base : Heap}
theorem same_upd {H H1 : Hp} {p : Addr} {o : HO} (e : Same H H1) (h : H p = none) : Same H (upd H1 p o) := fun b u q => by
  rw [upd_ne (ne_of_none q h)]
  exact e b u q
theorem upd_none {H : Hp} {a b : Addr} {o : HO} (h : (upd H a o) b = none) : b ≠ a ∧ H b = none := by
  have e : b ≠ a := fun e => by rw [e, upd_same] at h; cases h
  exact ⟨e, by rw [upd_ne e] at h; exact h⟩
theorem keys_inr {ks : KVs} (h : ∀ e ∈ ks, e.1 ∈ pKeys) : ∃ l : List Str, ks.map (·.1) = l.map Sum.inr := by
  induction ks with
  | nil => exact ⟨[], rfl⟩
  | cons p r ih =>
    obtain ⟨l, hl⟩ := ih fun e he => h e (List.mem_cons_of_mem _ he)
    have hp := h p List.mem_cons_self
    obtain ⟨z, hz⟩ : ∃ z : Str, p.1 = Sum.inr z := by
      simp only [pKeys, List.mem_cons, List.not_mem_nil, or_false] at hp
      rcases hp with e | e | e | e <;> exact ⟨_, e⟩
    exact ⟨z :: l, by rw [List.map_cons, List.map_cons, hl, hz]⟩
def spNames (K : Fg) : Sp := fun vs H Q _ => ∃ (p : Addr) (ks : KVs), vs = [.ref p] ∧ ProjAt K H p ks ∧ ∀ t H' (ys : List Str), Same H H' → H' t = some (.tup (ys.map V.str)) → ys.length ≤ 4 → (∀ y ∈ ys, (valV ks (kS y)).isSome = true) → Q (.ref t) H'
theorem ok_names (T : TX K mg) : FnG w K mg base CX0 1 (a_Project_names K) P_Project_names [] (spNames K) := by
  obtain ⟨fd, F⟩ := T.D_Project_names
  refine ⟨fd, [], F.ok sc_Project_names (fun vs H Q E h => ?_) (fun cdv A outer s H vs Q E hr h => ?_), F.bindsN fun _ _ _ _ _ _ us hl => match us, hl with | [_], _ => rfl, .nil, F.kp⟩
  · obtain ⟨p, ks, rfl, _⟩ := h
    rfl
  · obtain ⟨p, ks, rfl, A, k⟩ := h
    obtain ⟨dx, d, h1, h2⟩ := A.ins
    obtain ⟨l, hl⟩ := keys_inr A.keys
    have ll : l.length = ks.length := by
      have y := congrArg List.length hl
      rw [List.length_map, List.length_map] at y
      exact y.symm
    have l4 := A.len
    refine ⟨_, pss_one (ps_ret (pe_callTy call_tuple_of (by rfl) T.n_tuple (by decide +kernel) (pa_cons (pe_callB (call_sortedD rfl) (by rfl) T.n_sorted (by decide +kernel) (pa_cons (pe_fld (pv 0) rfl) pa_nil)) pa_nil))), ?_⟩
    refine ⟨_, rfl, p, cPrj K, dx, _, _, rfl, h1, T.c_Project, T.at_Project_kept, rfl, d, ks, l, rfl, .inl h2, hl, by omega, fun ys q hp hsrt hq => ?_⟩
    refine ⟨q, _, rfl, .inl ⟨SqL.of upd_same, fun t ht => ?_⟩⟩
    have nqt : H t = none := by
      by_cases e : t = q
      · rw [e]; exact hq
      · rw [upd_ne e] at ht; exact ht
    refine k t _ ys (same_upd (same_upd (Same.refl H) hq) nqt) upd_same (by rw [hp.length_eq]; omega) fun y hy => ?_
    have m1 : y ∈ l := hp.mem_iff.mp hy
    have m2 : kS y ∈ ks.map (·.1) := by
      rw [hl]
      exact List.mem_map.mpr ⟨y, m1, rfl⟩
    obtain ⟨e, he, q1⟩ := List.mem_map.mp m2
    have z := valV_self A.nd (k := e.1) (v := e.2) he
    rw [q1] at z
    rw [z]
    rfl
/-- Project({**self.kept, name: target}) -/
def spPut (K : Fg) : Sp := fun vs H Q _ => ∃ (p s : Addr) (ks o : KVs) (z : Str), vs = [.ref p, .str z, .ref s] ∧ ProjAt K H p ks ∧ kS z ∈ pKeys ∧ SrcAt K H s o ∧
  ∀ q H', Same H H' → H q = none → ProjAt K H' q (putK ks (kS z) (.ref s)) → Q (.ref q) H'
theorem ok_put (T : TX K mg) : FnG w K mg base CX0 3 (a_Project_put K) P_Project_put [] (spPut K) := by
  obtain ⟨fd, F⟩ := T.D_Project_put
  obtain ⟨fI, dI, GI, bI, vI, kI⟩ := ok_prj_init (w := w) (base := base) T
  cases vI
  refine ⟨fd, [], F.ok sc_Project_put (fun vs H Q E h => ?_) (fun cdv A outer s H vs Q E hr h => ?_), F.bindsN fun _ _ _ _ _ _ us hl => match us, hl with | [_, _, _], _ => rfl, .nil, F.kp⟩
  · obtain ⟨p, s, ks, o, z, rfl, _⟩ := h
    rfl
  · obtain ⟨p, s, ks, o, z, rfl, A, hk, hs, k⟩ := h
    obtain ⟨dx, d, h1, h2⟩ := A.ins
    refine ⟨_, pss_one (ps_ret (pe_make T.mk_Project GI hr (by rfl) T.g_Project bI .nil pass0 (pa_cons (pe_dispX (pe_fld (pv 0) rfl) (pv 1) (pv 2)) pa_nil))), ?_⟩
    intro p1 n1
    refine ⟨_, rfl, p, cPrj K, dx, _, _, rfl, (by rw [upd_ne (ne_of_none h1 n1)]; exact h1), T.c_Project, T.at_Project_kept, rfl, d, ks, rfl, ne_of_none h2 n1, .inl (by rw [upd_ne (ne_of_none h2 n1)]; exact h2), upd_same, A.nd, small_keys A.len, fun p2 n2 => ?_⟩
    rw [upd_upd] at n2 ⊢
    have n21 : p2 ≠ p1 := fun e => by rw [e, upd_same] at n2; cases n2
    have n2' : H p2 = none := by rw [upd_ne n21] at n2; exact n2
    refine ⟨_, rfl, _, rfl, _, _, rfl, kS z, rfl, upd_same, by rw [upd_ne n21.symm, upd_same], ?_⟩
    intro x dy nx ndy ndx
    obtain ⟨x1, nx⟩ := upd_none nx
    obtain ⟨x2, nx⟩ := upd_none nx
    obtain ⟨_, nx⟩ := upd_none nx
    obtain ⟨_, nx⟩ := upd_none nx
    obtain ⟨y1, ndy⟩ := upd_none ndy
    obtain ⟨y2, ndy⟩ := upd_none ndy
    obtain ⟨_, ndy⟩ := upd_none ndy
    obtain ⟨_, ndy⟩ := upd_none ndy
    refine ⟨x, dy, p1, putK ks (kS z) (.ref s), rfl, upd_same, .inl (by rw [upd_ne x1.symm, upd_ne y1.symm, upd_same]), x1.symm, fun p3 n3 => ⟨rfl, ?_⟩⟩
    obtain ⟨z1, n3⟩ := upd_none n3
    obtain ⟨z2, n3⟩ := upd_none n3
    obtain ⟨z3, n3⟩ := upd_none n3
    obtain ⟨z4, n3⟩ := upd_none n3
    obtain ⟨_, n3⟩ := upd_none n3
    obtain ⟨_, n3⟩ := upd_none n3
    have sm := same_upd (o := .ins (cPrj K) dy [("kept", .ref p3)]) (same_upd (o := .dK (putK ks (kS z) (.ref s))) (same_upd (o := .ins (cPrj K) dy []) (same_upd (o := .own x) (same_upd (o := .dK (putK ks (kS z) (.ref s))) (same_upd (o := .dK [(kS z, .ref s)]) (same_upd (o := .dK []) (same_upd (o := .dK ks) (Same.refl H) n1) n2') n2') n1) ndy) nx) n3) nx
    refine k x _ sm nx ((A.same sm).put hk (hs.same sm) ⟨dy, p3, upd_same, by rw [upd_ne z1, upd_same]⟩)
/-- the comprehension of a dict over a walk -/
theorem dc_it {J : It} {n : Nat} {G : Hp → Prop} {Y : Nat → Hp → V → Hp → Prop} (wk : Walk J n G Y) {g : TG} {tt : TT} {tk tv : TE} {vs : List Nat} {σ : St} {H1 : Hp} {D : Addr} {Qd : Hp → Prop} (Pv : Nat → Hp → Prop) (h0 : Pv 0 (upd H1 D (.dK []))) (hG : ∀ i H, i ≤ n → Pv i H → G H)
    (hs : ∀ i x H H', i < n → Pv i H → Y i H x H' → g x (wipe σ vs) H' fun σ2 H2 => wipe σ2 vs = wipe σ vs ∧ tt σ2 H2 fun b H3 =>
      if b = true then tk σ2 H3 fun y H4 => tv σ2 H4 fun z H5 => ∃ kvs k, y = kV k ∧ H5 D = some (.dK kvs) ∧ kvs.length < sizeLine ∧ Pv (i + 1) (upd H5 D (.dK (putK kvs k z))) else Pv (i + 1) H3) (hd : ∀ H, Pv n H → Qd H) :
    ∃ W : Nat → Nat → Hp → Prop, (∃ m, W 0 m (upd H1 D (.dK []))) ∧ ∀ i m H, W i m H →
      (J.stop i H ∧ Qd H) ∨ (J.go i H ∧ ∃ Nx : Hp → Prop, (∀ H', Nx H' → ∃ m', m' < m ∧ W (i + 1) m' H') ∧ ∀ x H', J.yld i H x H' → g x (wipe σ vs) H' fun σ2 H2 => wipe σ2 vs = wipe σ vs ∧ tt σ2 H2 fun b H3 =>
        if b = true then tk σ2 H3 fun y H4 => tv σ2 H4 fun z H5 => ∃ kvs k, y = kV k ∧ H5 D = some (.dK kvs) ∧ kvs.length < sizeLine ∧ Nx (upd H5 D (.dK (putK kvs k z))) else Nx H3) := by
  refine ⟨fun i m H => m = n - i ∧ i ≤ n ∧ Pv i H, ⟨n, by simp, Nat.zero_le _, h0⟩, ?_⟩
  rintro i m H ⟨rfl, hi, p⟩
  have q := hG i H hi p
  by_cases lt : i < n
  · exact .inr ⟨wk.goes i H lt q, Pv (i + 1), fun H' p' => ⟨n - (i + 1), by omega, rfl, lt, p'⟩, fun x H' y => hs i x H H' lt p (wk.yields i H x H' lt q y)⟩
  · have e : i = n := by omega
    subst e
    exact .inl ⟨wk.stops H q, hd H p⟩
/-- Project({.. if other != name}) -/
def spDrop (K : Fg) : Sp := fun vs H Q _ => ∃ (p : Addr) (ks : KVs) (z : Str), vs = [.ref p, .str z] ∧ ProjAt K H p ks ∧ (valV ks (kS z)).isSome = true ∧
  ∀ q H', Same H H' → H q = none → ProjAt K H' q (dropK ks (kS z)) → Q (.ref q) H'
theorem ok_drop (T : TX K mg) : FnG w K mg base CX0 3 (a_Project_without K) P_Project_without [] (spDrop K) := by
  obtain ⟨fd, F⟩ := T.D_Project_without
  obtain ⟨fI, dI, GI, bI, vI, kI⟩ := ok_prj_init (w := w) (base := base) T
  cases vI
  refine ⟨fd, [], F.ok sc_Project_without (fun vs H Q E h => ?_) (fun cdv A outer s H vs Q E hr h => ?_), F.bindsN fun _ _ _ _ _ _ us hl => match us, hl with | [_, _], _ => rfl, .nil, F.kp⟩
  · obtain ⟨p, ks, z, rfl, _⟩ := h
    rfl
  · obtain ⟨p, ks, z, rfl, A, hz, k⟩ := h
    obtain ⟨dx, d, h1, h2⟩ := A.ins
    have hu := hu_of hr
    refine ⟨_, pss_cons (ps_if (pt_cmp (pc_dnotin hu (pv 1) (pe_fld (pv 0) rfl))) (pss_one ps_never) pss_nil)
      (pss_one (ps_ret (pe_make T.mk_Project GI hr (by rfl) T.g_Project bI .nil pass0 (pa_cons (pe_lock (pe_dc (own := [("other", 2), ("target", 3)]) (g := gTup _ 2 _) (tt := _) rfl sc_Project_without.nd (pi_items (pe_fld (pv 0) rfl))
        (blkOk_by (N := N_Project_without) (sc := defScope s_Project_without) (by decide +kernel))
        (fun _ _ _ _ _ => pg_tup rfl (pgs_cons (pg_name (i := 2) sc_Project_without.nd rfl (Or.inl rfl)) (pgs_cons (pg_name (i := 3) sc_Project_without.nd rfl (Or.inl rfl)) pgs_nil)))
        (fun _ _ _ _ _ => pts_one (pt_cmpR op_ne (pv 2) (pv 1) (nomark _))) (fun _ _ _ _ _ => pv 2) (fun _ _ _ _ _ => pv 3))) pa_nil)))), ?_⟩
    refine ⟨_, rfl, _, rfl, p, cPrj K, dx, _, _, rfl, h1, T.c_Project, T.at_Project_kept, rfl, d, _, rfl, DGet.k (k := kS z) h2, _, rfl, iteF2 (by rw [hz]; rfl) ?_⟩
    refine ⟨d, .dK ks, h2, trivial, fun od => ?_⟩
    have h1' : (upd H d (.frz od (.dK ks))) p = some (.ins (cPrj K) dx [("kept", .ref d)]) := by rw [upd_ne (ne_of h1 h2 (by intro z; cases z))]; exact h1
    refine ⟨_, rfl, p, cPrj K, dx, _, _, rfl, h1', T.c_Project, T.at_Project_kept, rfl, d, od, ks, rfl, upd_same, fun D nD => ?_⟩
    have nDd : D ≠ d := fun e => by rw [e, upd_same] at nD; cases nD
    obtain ⟨_, nD⟩ := upd_none nD
    refine dc_it (walk_items (d := d) (o := od) (kvs := ks)) (fun i H' => H' d = some (.frz od (.dK ks)) ∧ (∀ b o, b ≠ d → H b = some o → H' b = some o) ∧ H' D = some (.dK (dropK (ks.take i) (kS z)))) ⟨?_, fun b o hb e => ?_, upd_same⟩ (fun i H' _ h => h.1) ?_ ?_
    · rw [upd_ne nDd.symm, upd_same]
    · rw [upd_ne (ne_of_none e nD), upd_ne hb]
      exact e
    · rintro i x H1 H2 hi ⟨c1, c2, c3⟩ ⟨Tt, kx, vx, rfl, nT, rfl, hk, hv⟩
      obtain ⟨e, he⟩ : ∃ e, ks[i]? = some e := ⟨_, List.getElem?_eq_getElem hi⟩
      have me : e ∈ ks := List.mem_of_getElem? he
      have hk : (ks[i]?).map (fun kv => kV kv.fst) = some kx := hk
      have hv : (ks[i]?).map Prod.snd = some vx := hv
      rw [he] at hk hv
      obtain ⟨l, hl⟩ := keys_inr A.keys
      obtain ⟨y, hy⟩ : ∃ y : Str, e.1 = Sum.inr y := by
        have m : e.1 ∈ l.map Sum.inr := by
          rw [← hl]
          exact List.mem_map.mpr ⟨e, me, rfl⟩
        obtain ⟨y, _, q⟩ := List.mem_map.mp m
        exact ⟨y, q.symm⟩
      have ek : kx = .str y := by
        have q : kV e.1 = kx := Option.some.inj hk
        rw [← q, hy]
        rfl
      have ev : vx = e.2 := (Option.some.inj hv).symm
      subst ek ev
      have nTD : D ≠ Tt := ne_of_none c3 nT
      have nTd : d ≠ Tt := ne_of_none c1 nT
      refine ⟨Tt, _, rfl, SqT.of upd_same, rfl, _, _, rfl, _, _, rfl, rfl, rfl, _, rfl, _, rfl, rfl, _, rfl, ?_⟩
      have tk : ks.take (i + 1) = ks.take i ++ [e] := take_next he
      by_cases c : y = z
      · subst c
        refine iteF2 (by rw [decide_eq_true rfl]; rfl) ⟨by rw [upd_ne nTd]; exact c1, fun b o hb q => by rw [upd_ne (ne_of_none (c2 b o hb q) nT)]; exact c2 b o hb q, ?_⟩
        rw [upd_ne nTD, c3, tk]
        unfold dropK
        rw [List.filter_append, List.filter_cons_of_neg (by rw [hy]; simp), List.filter_nil, List.append_nil]
      · have nyz : ¬ (V.str y = V.str z) := fun q => c (V.str.inj q)
        refine iteT2 (by rw [decide_eq_false nyz]; rfl) ⟨_, rfl, _, rfl, dropK (ks.take i) (kS z), Sum.inr y, rfl, by rw [upd_ne nTD]; exact c3, ?_, ?_, fun b o hb q => ?_, ?_⟩
        · have l1 : (dropK (ks.take i) (kS z)).length ≤ (ks.take i).length := List.length_filter_le _ _
          have l2 : (ks.take i).length ≤ ks.length := by rw [List.length_take]; omega
          have l3 := A.len
          rw [sizeLine_eq]
          omega
        · rw [upd_ne nDd.symm, upd_ne nTd]
          exact c1
        · have nb : b ≠ D := ne_of_none q nD
          rw [upd_ne nb, upd_ne (ne_of_none (c2 b o hb q) nT)]
          exact c2 b o hb q
        · rw [upd_same, tk]
          have ei : ¬ (valV (dropK (ks.take i) (kS z)) (Sum.inr y)).isSome = true := fun q => by
            obtain ⟨v, hv⟩ := Option.isSome_iff_exists.mp q
            have m := valV_mem hv
            have m2 : ((Sum.inr y : Key), v) ∈ ks.take i := (List.mem_filter.mp m).1
            have nd2 : ((ks.take (i + 1)).map (·.1)).Nodup := A.nd.sublist ((List.take_sublist _ _).map _)
            rw [tk, List.map_append, List.nodup_append] at nd2
            exact nd2.2.2 (Sum.inr y) (List.mem_map.mpr ⟨_, m2, rfl⟩) e.1 (by simp) hy.symm
          rw [putK_keys ei]
          unfold dropK
          rw [List.filter_append, List.filter_cons_of_pos (by rw [hy]; simp [kS]; exact c), List.filter_nil]
          have e2 : ((Sum.inr y : Key), e.2) = e := by rw [← hy]
          rw [e2]
    · rintro H1 ⟨c1, c2, c3⟩
      rw [List.take_length] at c3
      refine ⟨c1, ?_⟩
      intro x dy nx ndy ndx
      have old : Same H (upd H1 d (.dK ks)) := fun b o q => by
        by_cases e : b = d
        · subst e
          rw [upd_same, ← q, h2]
        · rw [upd_ne e]
          exact c2 b o e q
      have nxH := old.free nx
      have nyH := old.free ndy
      have hD : (upd H1 d (.dK ks)) D = some (.dK (dropK ks (kS z))) := by rw [upd_ne nDd]; exact c3
      have xD : D ≠ x := ne_of_none hD nx
      have yD : D ≠ dy := ne_of_none hD ndy
      refine ⟨x, dy, D, dropK ks (kS z), rfl, upd_same, .inl (by rw [upd_ne xD, upd_ne yD]; exact hD), xD, fun p3 n3 => ⟨rfl, ?_⟩⟩
      obtain ⟨z1, n3⟩ := upd_none n3
      obtain ⟨z2, n3⟩ := upd_none n3
      have n3H := old.free n3
      have sm := same_upd (o := .ins (cPrj K) dy [("kept", .ref p3)]) (same_upd (o := .dK (dropK ks (kS z))) (same_upd (o := .ins (cPrj K) dy []) (same_upd (o := .own x) old nyH) nxH) n3H) nxH
      exact k x _ sm nxH ((A.same sm).drop ⟨dy, p3, upd_same, by rw [upd_ne z1, upd_same]⟩)
end
end K98
/-! K98Proj3 -/
set_option Elab.async false
set_option linter.all false
set_option maxRecDepth 100000
set_option maxHeartbeats 4000000
/-! Project's source_outputs, write, erase -/
namespace K98
open PySem PySem.Spec PyProof.Rows L2
section
variable {w : World} {K : Fg} {mg : Str → Option Value} {base : Heap}
def spSOut (K : Fg) : Sp := fun vs H Q _ => ∃ (p s : Addr) (ks o : KVs) (z : Str), vs = [.ref p, .str z] ∧ ProjAt K H p ks ∧ valV ks (kS z) = some (.ref s) ∧ SrcAt K H s o ∧ ∀ q, H q = none → Q (.ref q) (upd H q (.dK o))
theorem ok_sout (T : TX K mg) : FnG w K mg base CX0 3 (a_Project_source_outputs K) P_Project_source_outputs [] (spSOut K) := by
  obtain ⟨fd, F⟩ := T.D_Project_source_outputs
  obtain ⟨fO, dO, GO, bO, vO, kO'⟩ := ok_outputs (w := w) (base := base) T
  cases vO
  refine ⟨fd, [], F.ok sc_Project_source_outputs (fun vs H Q E h => ?_) (fun cdv A outer s H vs Q E hr h => ?_), F.bindsN fun _ _ _ _ _ _ us hl => match us, hl with | [_, _], _ => rfl, .nil, F.kp⟩
  · obtain ⟨p, s, ks, o, z, rfl, _⟩ := h
    rfl
  · obtain ⟨p, s, ks, o, z, rfl, A, hv, S, k⟩ := h
    obtain ⟨dx, d, h1, h2⟩ := A.ins
    obtain ⟨dy, g, h3, h4⟩ := S.ins
    refine ⟨_, pss_cons (ps_set (i := 2) sc_Project_source_outputs.nd rfl (Or.inl rfl) (pe_dget (hu_of hr) (pe_fld (pv 0) rfl) (pv 1) (fun _ _ => rfl)))
      (pss_cons (ps_if (pt_not (pt_val (pe_callB call_isi (by rfl) T.n_isinstance (by decide +kernel) (pa_cons (pv 2) (pa_cons (pe_glob (by rfl) T.g_Source (show RelV (.ref (cSrc K)) (.ref (cSrc K)) from rfl)) pa_nil))))) (pss_one ps_never) pss_nil)
      (pss_one (ps_ret (pe_prop (pv 2) T.c_Source T.p_outputs GO hr bO .nil pass0 rfl)))), ?_⟩
    refine ⟨_, rfl, p, cPrj K, dx, _, _, rfl, h1, T.c_Project, T.at_Project_kept, rfl, _, rfl, d, .ref s, rfl, by rw [← hv]; exact DGet.k (k := kS z) h2, ?_⟩
    refine ⟨_, rfl, _, _, _, _, true, rfl, .own _, T.ty_src h3, T.k_ss, true, rfl, iteF2 rfl ?_⟩
    exact ⟨_, rfl, s, dy, _, rfl, h3, s, o, rfl, S, k⟩
/-- write: the name's source anew, one output written; where there was none: that output alone -/
def spWrite (K : Fg) : Sp := fun vs H Q _ => ∃ (p : Addr) (ks : KVs) (n x t : Str), vs = [.ref p, .str n, .str x, .str t] ∧ ProjAt K H p ks ∧ kS n ∈ pKeys ∧ (kS x = kO ∨ kS x = kQ) ∧
  ∀ q s H', Same H H' → H q = none → ProjAt K H' q (putK ks (kS n) (.ref s)) → (valV ks (kS n) = none → SrcAt K H' s [(kS x, .str t)]) → Q (.ref q) H'
theorem putO {o : KVs} (h : OkO o) {x : Str} (hx : kS x = kO ∨ kS x = kQ) (t : Str) : OkO (putK o (kS x) (.str t)) := by
  have nd := putK_nd h.1 (kS x) (.str t)
  have mem : ∀ p ∈ putK o (kS x) (.str t), (p.1 = kO ∨ p.1 = kQ) ∧ ∃ z : Str, p.2 = .str z := fun p hp => by
    rcases putK_mem hp with y | y
    · exact h.2.2 p y
    · rw [y]
      exact ⟨hx, t, rfl⟩
  refine ⟨nd, ?_, mem⟩
  have hl : ((putK o (kS x) (.str t)).map (·.1)).length ≤ ([kO, kQ] : List Key).length := nd.length_le_of_subset fun k hk => by
    obtain ⟨e, he, q⟩ := List.mem_map.mp hk
    rw [← q]
    rcases (mem e he).1 with y | y <;> rw [y] <;> simp
  rw [List.length_map] at hl
  exact hl
theorem ok_write (T : TX K mg) : FnG w K mg base CX0 4 (a_Project_write K) P_Project_write [] (spWrite K) := by
  obtain ⟨fd, F⟩ := T.D_Project_write
  obtain ⟨fO, dO, GO, bO, vO, kO'⟩ := ok_sout (w := w) (base := base) T
  obtain ⟨fS, dS, GS, bS, vS, kS'⟩ := ok_src_init (w := w) (base := base) T
  obtain ⟨fP, dP, GP, bP, vP, kP'⟩ := ok_put (w := w) (base := base) T
  cases vO
  cases vS
  cases vP
  refine ⟨fd, [], F.ok sc_Project_write (fun vs H Q E h => ?_) (fun cdv A outer s H vs Q E hr h => ?_), F.bindsN fun _ _ _ _ _ _ us hl => match us, hl with | [_, _, _, _], _ => rfl, .nil, F.kp⟩
  · obtain ⟨p, ks, n, x, t, rfl, _⟩ := h
    rfl
  · obtain ⟨p, ks, n, x, t, rfl, A, hn, hx, k⟩ := h
    obtain ⟨dx, d, h1, h2⟩ := A.ins
    have hu := hu_of hr
    have hr2 : Room 2 _ := hr.mono (by decide)
    refine ⟨_, pss_cons (ps_set (i := 4) sc_Project_write.nd rfl (Or.inl rfl) (pe_ifExp (pt_cmp (pc_din hu (pv 1) (pe_fld (pv 0) rfl))) (pe_meth (pv 0) T.c_Project T.m_Project_source_outputs GO hr bO .nil pass0 (pa_cons (pv 1) pa_nil)) pe_dnewK))
      (pss_cons (ps_dput hu (pv 4) (pv 2) (pv 3) rfl)
      (pss_one (ps_ret (pe_meth (pv 0) T.c_Project T.m_Project_put GP hr bP .nil pass0 (pa_cons (pv 1) (pa_cons (pe_make T.mk_Source GS hr2 (by rfl) T.g_Source bS .nil pass0 (pa_cons (pv 4) pa_nil)) pa_nil)))))), ?_⟩
    refine ⟨_, rfl, _, rfl, p, cPrj K, dx, _, _, rfl, h1, T.c_Project, T.at_Project_kept, rfl, d, _, rfl, DGet.k (k := kS n) h2, _, rfl, ?_⟩
    -- behind the first statement: the outputs at q
    have tail : ∀ (q : Addr) (o : KVs) (H1 : Hp), OkO o → Same H H1 → H q = none → H1 q = some (.dK o) → (valV ks (kS n) = none → o = []) →
        (tSeq (sDPut (tVar 4) (tVar 2) (tVar 3)) (tRet (tMeth (cPrj K) "put" (spPut K) [] E0 (tVar 0) (tCons (tVar 1) (tCons (tMake (cSrc K) (spSrcInit K) [] E0 (tCons (tVar 4) tNil)) tNil))))) { nx := fun _ H' => Q .non H', rt := Q } [some (.ref p), some (.str n), some (.str x), some (.str t), some (.ref q)] H1 := by
      intro q o H1 ok sm nq hq hv
      have l2 := ok.2.1
      refine ⟨_, rfl, _, rfl, _, rfl, q, _, rfl, DPut.k (k := kS x) hq (by rw [sizeLine_eq]; omega), ?_⟩
      have sm1 : Same H (upd H1 q (.dK (putK o (kS x) (.str t)))) := same_upd sm nq
      refine ⟨_, rfl, p, dx, _, rfl, sm1 _ _ h1, rfl, _, rfl, _, rfl, ?_⟩
      intro y dy ny ndy ndx
      have nyH := sm1.free ny
      have ndyH := sm1.free ndy
      have qy : q ≠ y := ne_of_none upd_same ny
      have qdy : q ≠ dy := ne_of_none upd_same ndy
      refine ⟨y, dy, q, putK o (kS x) (.str t), rfl, upd_same, .inl (by rw [upd_ne qy, upd_ne qdy, upd_same]), qy, fun p3 n3 => ⟨rfl, ?_⟩⟩
      obtain ⟨z1, n3⟩ := upd_none n3
      obtain ⟨z2, n3⟩ := upd_none n3
      have n3H := sm1.free n3
      have sm2 := same_upd (o := .ins (cSrc K) dy [("given", .ref p3)]) (same_upd (o := .dK (putK o (kS x) (.str t))) (same_upd (o := .ins (cSrc K) dy []) (same_upd (o := .own y) sm1 ndyH) nyH) n3H) nyH
      have src : SrcAt K (upd (upd (upd (upd (upd H1 q (.dK (putK o (kS x) (.str t)))) dy (.own y)) y (.ins (cSrc K) dy [])) p3 (.dK (putK o (kS x) (.str t)))) y (.ins (cSrc K) dy [("given", .ref p3)])) y (putK o (kS x) (.str t)) :=
        ⟨⟨dy, p3, upd_same, by rw [upd_ne z1, upd_same]⟩, putO ok hx t⟩
      refine ⟨p, y, ks, _, n, rfl, A.same sm2, hn, src, fun q2 H2 s2 n2 P2 => ?_⟩
      refine k q2 y H2 (sm2.trans s2) (sm2.free n2) P2 fun hv2 => ?_
      have e := hv hv2
      subst e
      exact src.same s2
    cases hv : valV ks (kS n) with
    | some v =>
      obtain ⟨s1, o, ev, S⟩ := A.src _ (valV_mem hv)
      have ev' : v = .ref s1 := ev
      subst ev'
      refine iteT2 rfl ?_
      refine ⟨_, rfl, p, dx, _, rfl, h1, rfl, _, rfl, p, s1, ks, o, n, rfl, A, hv, S, fun q nq => ?_⟩
      exact tail q o _ S.ok (same_upd (Same.refl H) nq) nq upd_same fun y => by rw [hv] at y; cases y
    | none =>
      refine iteF2 rfl ?_
      intro q nq
      exact tail q [] _ ⟨List.nodup_nil, Nat.zero_le _, fun p hp => nomatch hp⟩ (same_upd (Same.refl H) nq) nq upd_same fun _ => rfl
theorem dropO {o : KVs} (h : OkO o) (k : Key) : OkO (dropK o k) :=
  ⟨h.1.sublist ((List.filter_sublist).map _), Nat.le_trans (List.length_filter_le _ _) h.2.1, fun p hp => h.2.2 p (List.mem_filter.mp hp).1⟩
def spErase (K : Fg) : Sp := fun vs H Q _ => ∃ (p : Addr) (ks : KVs) (n x : Str), vs = [.ref p, .str n, .str x] ∧ ProjAt K H p ks ∧ kS n ∈ pKeys ∧ (valV ks (kS n)).isSome = true ∧
  ∀ q s H', Same H H' → H q = none → ProjAt K H' q (putK ks (kS n) (.ref s)) → Q (.ref q) H'
theorem ok_erase (T : TX K mg) : FnG w K mg base CX0 4 (a_Project_erase K) P_Project_erase [] (spErase K) := by
  obtain ⟨fd, F⟩ := T.D_Project_erase
  obtain ⟨fO, dO, GO, bO, vO, kO'⟩ := ok_sout (w := w) (base := base) T
  obtain ⟨fS, dS, GS, bS, vS, kS'⟩ := ok_src_init (w := w) (base := base) T
  obtain ⟨fP, dP, GP, bP, vP, kP'⟩ := ok_put (w := w) (base := base) T
  cases vO
  cases vS
  cases vP
  refine ⟨fd, [], F.ok sc_Project_erase (fun vs H Q E h => ?_) (fun cdv A outer s H vs Q E hr h => ?_), F.bindsN fun _ _ _ _ _ _ us hl => match us, hl with | [_, _, _], _ => rfl, .nil, F.kp⟩
  · obtain ⟨p, ks, n, x, rfl, _⟩ := h
    rfl
  · obtain ⟨p, ks, n, x, rfl, A, hn, hi, k⟩ := h
    obtain ⟨dx, d, h1, h2⟩ := A.ins
    obtain ⟨v, hv⟩ := Option.isSome_iff_exists.mp hi
    obtain ⟨s1, o, ev, S⟩ := A.src _ (valV_mem hv)
    have ev' : v = .ref s1 := ev
    subst ev'
    have hu := hu_of hr
    have hr2 : Room 2 _ := hr.mono (by decide)
    refine ⟨_, pss_cons (ps_if (pt_cmp (pc_dnotin hu (pv 1) (pe_fld (pv 0) rfl))) (pss_one ps_never) pss_nil)
      (pss_cons (ps_set (i := 3) sc_Project_erase.nd rfl (Or.inl rfl) (pe_meth (pv 0) T.c_Project T.m_Project_source_outputs GO hr bO .nil pass0 (pa_cons (pv 1) pa_nil)))
      (pss_cons (ps_expr (pe_dpop2 (pv 3) (pv 2) pe_non ⟨rfl, rfl, rfl, rfl⟩))
      (pss_one (ps_ret (pe_meth (pv 0) T.c_Project T.m_Project_put GP hr bP .nil pass0 (pa_cons (pv 1) (pa_cons (pe_make T.mk_Source GS hr2 (by rfl) T.g_Source bS .nil pass0 (pa_cons (pv 3) pa_nil)) pa_nil))))))), ?_⟩
    refine ⟨_, rfl, _, rfl, p, cPrj K, dx, _, _, rfl, h1, T.c_Project, T.at_Project_kept, rfl, d, _, rfl, DGet.k (k := kS n) h2, _, rfl, iteF2 (by rw [hv]; rfl) ?_⟩
    refine ⟨_, rfl, p, dx, _, rfl, h1, rfl, _, rfl, p, s1, ks, o, n, rfl, A, hv, S, fun q nq => ?_⟩
    have tail : ∀ (o' : KVs) (H1 : Hp), OkO o' → Same H H1 → H1 q = some (.dK o') →
        (tRet (tMeth (cPrj K) "put" (spPut K) [] E0 (tVar 0) (tCons (tVar 1) (tCons (tMake (cSrc K) (spSrcInit K) [] E0 (tCons (tVar 3) tNil)) tNil)))) { nx := fun _ H' => Q .non H', rt := Q } [some (.ref p), some (.str n), some (.str x), some (.ref q)] H1 := by
      intro o' H1 ok sm1 hq
      refine ⟨_, rfl, p, dx, _, rfl, sm1 _ _ h1, rfl, _, rfl, _, rfl, ?_⟩
      intro y dy ny ndy ndx
      have nyH := sm1.free ny
      have ndyH := sm1.free ndy
      have qy : q ≠ y := ne_of_none hq ny
      have qdy : q ≠ dy := ne_of_none hq ndy
      refine ⟨y, dy, q, o', rfl, upd_same, .inl (by rw [upd_ne qy, upd_ne qdy]; exact hq), qy, fun p3 n3 => ⟨rfl, ?_⟩⟩
      obtain ⟨z1, n3⟩ := upd_none n3
      obtain ⟨z2, n3⟩ := upd_none n3
      have n3H := sm1.free n3
      have sm2 := same_upd (o := .ins (cSrc K) dy [("given", .ref p3)]) (same_upd (o := .dK o') (same_upd (o := .ins (cSrc K) dy []) (same_upd (o := .own y) sm1 ndyH) nyH) n3H) nyH
      have src : SrcAt K (upd (upd (upd (upd H1 dy (.own y)) y (.ins (cSrc K) dy [])) p3 (.dK o')) y (.ins (cSrc K) dy [("given", .ref p3)])) y o' := ⟨⟨dy, p3, upd_same, by rw [upd_ne z1, upd_same]⟩, ok⟩
      exact ⟨p, y, ks, _, n, rfl, A.same sm2, hn, src, fun q2 H2 s2 n2 P2 => k q2 y H2 (sm2.trans s2) (sm2.free n2) P2⟩
    refine ⟨_, rfl, q, rfl, .inl ⟨_, .inl upd_same⟩, _, rfl, o, kS x, upd_same, rfl, fun v' hv' => ?_, fun hv' => ?_⟩
    · refine tail _ _ (dropO S.ok _) ?_ upd_same
      rw [upd_upd]
      exact same_upd (Same.refl H) nq
    · exact tail _ _ S.ok (same_upd (Same.refl H) nq) upd_same
end
end K98
/-! K98Sort -/
set_option Elab.async false
set_option linter.all false
set_option maxRecDepth 100000
set_option maxHeartbeats 4000000
/-! sorted of a dict with one tuple key; sorted of nothing by a key -/
namespace K98
open PySem PySem.Spec PyProof.Rows L2
theorem swo_no : SrtO.Swo (fun _ _ : Value => false) := ⟨(fun _ _ h => nomatch h), fun _ _ _ _ _ => rfl⟩
theorem call_sorted1 {X : Cx} (hc : X.calm = true) : CallR X (.builtin "sorted") (fun xs H Q => ∃ (a : Addr) (k : List Key) (v : V), xs = [.ref a] ∧ Rd H a (.dT [(k, v)]) ∧ ∀ b p, H b = some (.tup (k.map kV)) → H p = none → Q (.ref p) (upd H p (.lst [.ref b]))) := by
  intro pins s σ H xs us Q I r h
  obtain ⟨d, k, v, rfl, hd, q⟩ := h
  obtain ⟨u, rfl, rx⟩ := r.one
  cases rx
  obtain ⟨z, hs, ks, pr, o, es, ep, ho, hx, hdt, he, hn⟩ := (show ObjOk X.prog X.w H s.heap d (.dT [(k, v)]) from hd.ok I.hok)
  cases pr with
  | cons r1 rr =>
    rename_i x1 xr
    cases rr
    obtain ⟨k1, b, v1⟩ := x1
    obtain ⟨ek, hb, rv⟩ := r1
    have l1 : es.size = 1 := size_of_entries he
    refine Calls.call_function_entry PyProof.Rows.kind_sorted PyProof.Rows.plain_sorted PyProof.Rows.entry_sorted (PyProof.Rows.args_sorted1 _) ?_
    unfold Builtin.«sorted»
    refine wpAny_bind (m := checkCount "sorted" 1 1 _) (wpAny_pure ?_)
    refine wpAny_bind (PySem.W.kdu_collect (A := X.A.in1) (kdl_raw hs hx hdt) (I.ok.hd hc) ho (by rw [l1, sizeLine_eq]; omega) fun h' tk acc hk hacc => ?_)
    have ea : acc.toList = [.ref b] := by
      have hl : acc.size = 1 := by rw [hacc.1]; exact l1
      obtain ⟨al⟩ := acc
      cases al with
      | nil => cases hl
      | cons y r =>
        have hr : r = [] := by
          cases r with
          | nil => rfl
          | cons _ _ => simp at hl
        subst hr
        obtain ⟨en, hen, hv⟩ := hacc.2 0 y rfl
        have qe := entry_at he 0
        rw [hen] at qe
        have e2 : en = entryOfKey (tupleKind (mixKind X.prog X.w)) (k1, b, v1) := Option.some.inj qe
        show [y] = [.ref b]
        rw [hv, e2]
        rfl
    rw [ea]
    have I1 : Inv X pins σ H { s with heap := h', toks := tk } := I.kept hk
    have one : [Value.ref b].length ≤ sizeLine := by rw [sizeLine_eq]; exact (by decide : 1 ≤ 16777216)
    refine wpAny_bind (wpAny_newList ?_ one)
    have hoL : (h'.push (seqObj "list" [Value.ref b].toArray 0)).get? h'.objs.size = some (seqObj "list" [Value.ref b].toArray 0) := Heap.get?_push_size _ rfl
    show wpAny _ _ _ _ _ { s with heap := h'.push (seqObj "list" [Value.ref b].toArray 0), toks := tk }
    refine wpAny_bind (wpAny_holding (wpAny_call_entry PyProof.Rows.slot_list_sort ⟨_, hoL, rfl⟩ PyProof.Rows.entry_list_sort
      (SrtO.list_sort_ord (s := { s with heap := h'.push (seqObj "list" [Value.ref b].toArray 0), toks := tk }) swo_no hoL one (fun h2 => absurd h2 (by show ¬ (2 ≤ 1); decide)) fun out h1 h2 => ⟨_, rfl, ?_⟩)
      (PyProof.Rows.args_list_sort _)))
    have eo : out = [Value.ref b] := by
      exact List.perm_singleton.mp h2.perm
    subst eo
    obtain ⟨e', he'⟩ := PyProof.Rows.sortedHeap_at (vs := [Value.ref b]) (out := [Value.ref b].toArray) hoL
    refine wpAny_pure ⟨_, rfl, .ref h'.objs.size, upd H h'.objs.size (.lst [.ref b]), I1.laid (t' := tk) (fun c u e => ?_) (Nat.le_refl _)
      (show ObjOk X.prog X.w _ _ _ (.lst [.ref b]) from ⟨one, [.ref b], e', .cons rfl .nil, he'⟩), rfl, q b _ hb (I1.hok.fresh (Nat.le_refl _))⟩
    have hb : c < h'.objs.size := Heap.lt_size e
    rw [PyProof.Rows.sortedHeap_old (Nat.ne_of_lt hb) (by rw [size_push']; exact Nat.lt_succ_of_lt hb)]
    exact Heap.get?_push_of_some _ e
section
variable {prog : Program} {w : World} {A : Around} {E : Value → Shared → Prop} {s : Shared}
theorem rest_none {a kS q : Addr} {e1 : Nat} {R : PySem.Fin → Shared → Prop} (ha : s.heap.get? a = some (seqObj "list" #[] e1)) (hk : s.heap.get? kS = some (seqObj "list" #[] 0)) (ne : kS ≠ a)
    (h : ∀ h' e, h'.get? a = some (seqObj "list" #[] e) → (∀ b o, b ≠ a → b ≠ kS → s.heap.get? b = some o → h'.get? b = some o) → R (.done (.ret .none)) { s with heap := h' }) :
    wpAny (model prog w) A (PyProof.Rows.ksk_rest a (.ref q) false #[] e1 (.ref kS)) R E s := by
  unfold PyProof.Rows.ksk_rest
  refine wpAny_bind (wpAny_rule (wpAny_bind ?_))
  rw [show (forIn (#[] : Array Value) PUnit.unit _ : Sem PUnit) = pure PUnit.unit from rfl]
  refine wpAny_pure (wpAny_bind (listItems_at hk rfl ?_))
  unfold PyProof.Rows.ksk_end
  simp only [Bool.false_eq_true, if_false]
  refine wpAny_bind ?_
  rw [if_pos (show (#[] : Array Value).size < 2 from by decide)]
  refine wpAny_pure ?_
  refine wpAny_bind ?_
  rw [StateT.run_pure]
  refine wpAny_pure ?_
  dsimp only
  have e0 : Array.map (fun x : Keyed => x.snd) (arrOf (SortSt.mk' general' ((#[] : Array Value).zip #[]) #[] 7 none)) = #[] := by
    first
    | rfl
    | simp [arrOf, SortSt.mk']
  unfold PyProof.Rows.ksk_tail
  simp only [Bool.false_eq_true, if_false, e0]
  refine wpAny_bind (listUpdate_at hk rfl ?_ (Nat.zero_le _) (Nat.zero_le _))
  have ha1 : (s.heap.update kS (Obj.mapSeq fun _ => #[])).get? a = some (seqObj "list" #[] e1) := (Heap.get?_update_ne _ _ _ _ (Ne.symm ne)).trans ha
  refine wpAny_bind (wpAny_letGo ?_)
  refine wpAny_bind (seqEpoch_at ha1 rfl ?_)
  refine wpAny_bind (listUpdate_at ha1 rfl ?_ (Nat.zero_le _) (Nat.zero_le _))
  have s1 := Heap.SameBut.update s.heap kS (Obj.mapSeq fun _ => (#[] : Array Value))
  have s2 := Heap.SameBut.update (s.heap.update kS (Obj.mapSeq fun _ => (#[] : Array Value))) a (Obj.mapSeq fun _ => (#[] : Array Value))
  rw [if_neg (by simp)]
  obtain ⟨c2, hc2⟩ : ∃ c2, ((s.heap.update kS (Obj.mapSeq fun _ => (#[] : Array Value))).update a (Obj.mapSeq fun _ => (#[] : Array Value))).get? a = some (seqObj "list" #[] c2) := ⟨_, get?_update_seq ha1 fun _ => #[]⟩
  exact wpAny_pure (h _ c2 hc2 fun b o h1 h2 g => (s2.2 b h1).trans ((s1.2 b h2).trans g))
theorem sort_none {a q : Addr} {n : Nat} {R : PySem.Fin → Shared → Prop} (ho : s.heap.get? a = some (seqObj "list" #[] n))
    (h : ∀ h' e, h'.get? a = some (seqObj "list" #[] e) → (∀ b o, b ≠ a → s.heap.get? b = some o → h'.get? b = some o) → R (.done (.ret .none)) { s with heap := h' }) :
    wpAny (model prog w) A (Builtin.«list.sort» ⟨[.ref a], [(Str.ofString "key", .ref q)]⟩) R E s := by
  rw [PyProof.Rows.ksk_t1]
  unfold PyProof.Rows.ksk_tree
  have ha : a < s.heap.objs.size := Heap.lt_size ho
  refine wpAny_bind (listItems_at ho rfl ?_)
  refine wpAny_bind (listUpdate_at ho rfl ?_ (Nat.zero_le _) (Nat.zero_le _))
  obtain ⟨e1, ho1⟩ : ∃ e1, (s.heap.update a (Obj.mapSeq fun _ => #[])).get? a = some (seqObj "list" #[] e1) := ⟨_, get?_update_seq ho (fun _ => #[])⟩
  refine wpAny_bind (seqEpoch_at ho1 rfl ?_)
  refine wpAny_bind (wpAny_newTuple ?_ (Nat.zero_le _))
  refine wpAny_bind (wpAny_newList ?_ (Nat.zero_le _))
  refine wpAny_holding ?_
  have k1 : (((s.heap.update a (Obj.mapSeq fun _ => #[])).push (seqObj "tuple" #[] 0)).push (seqObj "list" #[] 0)).get? a = some (seqObj "list" #[] e1) := Heap.get?_push_of_some _ (Heap.get?_push_of_some _ ho1)
  have z : ((s.heap.update a (Obj.mapSeq fun _ => #[])).push (seqObj "tuple" #[] 0)).objs.size = s.heap.objs.size + 1 := by rw [size_push', Heap.size_update]
  have k2 : (((s.heap.update a (Obj.mapSeq fun _ => #[])).push (seqObj "tuple" #[] 0)).push (seqObj "list" #[] 0)).get? ((s.heap.update a (Obj.mapSeq fun _ => #[])).push (seqObj "tuple" #[] 0)).objs.size = some (seqObj "list" #[] 0) := Heap.get?_push_size _ rfl
  refine rest_none (s := { s with heap := ((s.heap.update a (Obj.mapSeq fun _ => #[])).push (seqObj "tuple" #[] 0)).push (seqObj "list" #[] 0) }) k1 k2 (by rw [z]; exact Nat.ne_of_gt (Nat.lt_succ_of_lt ha)) fun h' e g1 g2 => h h' e g1 fun b o hb hg => ?_
  have lb : b < s.heap.objs.size := Heap.lt_size hg
  refine g2 b o hb (by rw [z]; exact Nat.ne_of_lt (Nat.lt_succ_of_lt lb)) (Heap.get?_push_of_some _ (Heap.get?_push_of_some _ ((Heap.get?_update_ne _ _ _ _ hb).trans hg)))
end
/-- sorted([], key=f), f a def -/
theorem cr_sortedNone {X : Cx} : CallRK X (.builtin "sorted") [Str.ofString "key"] (fun vs zs H Q => ∃ a f, vs = [.ref a] ∧ zs = [.ref f] ∧ SqL X.K H a [] ∧ ∀ p, H p = none → Q (.ref p) (upd H p (.lst []))) := by
  intro pins s σ H vs zs us ws Q I r rz h
  obtain ⟨a, f, rfl, rfl, hs, q⟩ := h
  obtain rfl := Vals.ref1 r
  obtain ⟨w1, rfl, e1⟩ := vals1 rz
  obtain rfl : w1 = Value.ref f := e1
  obtain ⟨its, rv, hl, hz⟩ := I.list hs
  cases rv
  refine call_function_entry_kw kind_sorted plain_sorted entry_sorted (PyProof.Rows.ksk_s1 _ _) ?_
  unfold Builtin.«sorted»
  refine wpAny_bind (m := checkCount "sorted" 1 1 _) (wpAny_pure ?_)
  refine wpAny_bind (collect_list (vs := []) hl.isList ?_ (Nat.zero_le _))
  refine wpAny_bind (wpAny_newList ?_ (Nat.zero_le _))
  generalize hh1 : (s.heap.push (seqObj "list" #[] 0)).update s.heap.objs.size (Obj.mapSeq (· ++ ([] : List Value).toArray)) = h1
  have keep : ∀ b o, s.heap.get? b = some o → h1.get? b = some o := fun b o e => by
    have lt : b < s.heap.objs.size := Heap.lt_size e
    rw [← hh1, Heap.get?_update_ne _ _ _ _ (Nat.ne_of_lt lt)]
    exact Heap.get?_push_of_some _ e
  have I1 : Inv X pins σ H { s with heap := h1 } := I.kept (t' := s.toks) keep
  have hoL : (h1.push (seqObj "list" #[] 0)).get? h1.objs.size = some (seqObj "list" #[] 0) := Heap.get?_push_size _ rfl
  show wpAny _ _ _ _ _ { s with heap := h1.push (seqObj "list" #[] 0) }
  refine wpAny_bind (wpAny_holding (wpAny_call_entry_kw slot_list_sort ⟨_, hoL, rfl⟩ entry_list_sort
    (sort_none (s := { s with heap := h1.push (seqObj "list" #[] 0) }) hoL fun h2 e g1 g2 => ⟨_, rfl, ?_⟩) (PyProof.Rows.ksk_l1 _ _)))
  refine wpAny_pure ⟨_, rfl, .ref h1.objs.size, upd H h1.objs.size (.lst []), I1.laid (t' := s.toks) (fun b u e' => g2 b u (Nat.ne_of_lt (Heap.lt_size e')) (Heap.get?_push_of_some _ e')) (Nat.le_refl _)
    (show ObjOk X.prog X.w _ _ _ (.lst []) from ⟨Nat.zero_le _, [], e, .nil, g1⟩), rfl, q _ (I1.hok.fresh (Nat.le_refl _))⟩
end K98
/-! K98Eng -/
set_option Elab.async false
set_option linter.all false
set_option maxRecDepth 100000
set_option maxHeartbeats 4000000
/-! in_order of nothing; records; the needs over projects of sources alone -/
namespace K98
open PySem PySem.Spec PyProof.Rows L2
section
variable {w : World} {K : Fg} {mg : Str → Option Value} {base : Heap}
theorem TX.tup0 (T : TX K mg) (H : Hp) : SqT K H (dRec K) [] := tup0_ok (T.extra 20) H
def spInOrder (K : Fg) : Sp := fun vs H Q _ => ∃ a, vs = [.ref a] ∧ SqL K H a [] ∧ ∀ p H', Same H H' → H p = none → H' p = some (.lst []) → Q (.ref p) H'
theorem ok_in_order (T : TX K mg) : FnG w K mg base CX0 1 (a_in_order K) P_in_order [] (spInOrder K) := by
  obtain ⟨fd, F⟩ := T.D_in_order
  refine ⟨fd, [], F.ok sc_in_order (fun vs H Q E h => ?_) (fun cdv A outer s H vs Q E hr h => ?_), F.bindsN fun _ _ _ _ _ _ us hl => match us, hl with | [_], _ => rfl, .nil, F.kp⟩
  · obtain ⟨a, rfl, _⟩ := h
    rfl
  · obtain ⟨a, rfl, ha, k⟩ := h
    refine ⟨_, pss_one (ps_ret (pe_callBK cr_sortedNone (by rfl) T.n_sorted (by decide +kernel) (pa_cons (pe_callTy (call_listD rfl) (by rfl) T.n_list (by decide +kernel) (pa_cons (pe_dc (own := [("place", 1)]) (g := gName 1) (tt := tYes) rfl sc_in_order.nd (pi_list (pv 0))
      (blkOk_by (N := N_in_order) (sc := defScope s_in_order) (by decide +kernel)) (fun _ _ _ _ _ => pg_name (i := 1) sc_in_order.nd rfl (Or.inl rfl)) (fun _ _ _ _ _ => pts_nil) (fun _ _ _ _ _ => pv 1) (fun _ _ _ _ _ => pe_bl)) pa_nil)) pa_nil)
      (pk_cons (pe_glob (by rfl) T.g_rank (show RelV (.ref (He.ga K "rank")) (.ref (He.ga K "rank")) from rfl)) pk_nil))), ?_⟩
    refine ⟨_, rfl, a, rfl, ⟨_, ha⟩, fun D nD => ?_⟩
    refine dc_it (walk_list (xs := [])) (fun i H' => H' = upd H D (.dK [])) rfl (fun i H' _ e => by rw [e]; exact ha.ext (same_upd (Same.refl H) nD)) (fun i x H1 H2 hi => absurd hi (Nat.not_lt_zero _)) ?_
    rintro H1 rfl
    refine ⟨D, [], rfl, .inl upd_same, fun q nq => ?_⟩
    have sm : Same H (upd (upd H D (.dK [])) q (.lst [])) := same_upd (same_upd (Same.refl H) nD) (upd_none nq).2
    refine ⟨q, _, rfl, rfl, SqL.of upd_same, fun p np => ?_⟩
    have np2 := (upd_none (upd_none np).2).2
    exact k p _ (same_upd sm np2) np2 upd_same
def spGathered (K : Fg) : Sp := fun vs H Q _ => ∃ a, vs = [.ref a] ∧ SqT K H a [] ∧ ∀ p H', Same H H' → H p = none → H' p = some (.dK []) → Q (.ref p) H'
theorem ok_gathered (T : TX K mg) : FnG w K mg base CX0 1 (a_gathered K) P_gathered [] (spGathered K) := by
  obtain ⟨fd, F⟩ := T.D_gathered
  refine ⟨fd, [], F.ok sc_gathered (fun vs H Q E h => ?_) (fun cdv A outer s H vs Q E hr h => ?_), F.bindsN fun _ _ _ _ _ _ us hl => match us, hl with | [_], _ => rfl, .nil, F.kp⟩
  · obtain ⟨a, rfl, _⟩ := h
    rfl
  · obtain ⟨a, rfl, ha, k⟩ := h
    refine ⟨_, PSs.nox (pss_cons (ps_set (i := 1) sc_gathered.nd rfl (Or.inl rfl) pe_dnewK)
      (pss_cons (ps_set (i := 2) sc_gathered.nd rfl (Or.inl rfl) (pe_lst pa_nil))
      (pss_cons (ps_for PassesOwn.never rfl (pi_tup (pv 0)) (pg_tup rfl (pgs_cons (pg_name (i := 3) sc_gathered.nd rfl (Or.inl rfl)) (pgs_cons (pg_name (i := 4) sc_gathered.nd rfl (Or.inl rfl)) pgs_nil))) (pss_cons ps_never (pss_one ps_never)))
      (pss_cons (ps_if (pt_cmpR op_gt (pe_callB call_len_seq (by rfl) T.n_len boot_len (pa_cons (pv 2) pa_nil)) pe_int (nomark _)) (pss_one ps_never) pss_nil)
      (pss_one (ps_ret (pv 1))))))), ?_⟩
    intro d nd
    refine ⟨Nat.zero_le _, fun l nl => ?_⟩
    obtain ⟨ld, nlH⟩ := upd_none nl
    have sm : Same H (upd (upd H d (.dK [])) l (.lst [])) := same_upd (same_upd (Same.refl H) nd) nlH
    refine ⟨_, rfl, a, rfl, ⟨_, ha.ext sm⟩, for_it (walk_tup (xs := [])) (fun i σ H' => σ = [some (.ref a), some (.ref d), some (.ref l), none, none] ∧ H' = upd (upd H d (.dK [])) l (.lst [])) ⟨rfl, rfl⟩ (fun i σ H' _ e => by rw [e.2]; exact ha.ext sm) (fun i x σ H1 H2 hi => absurd hi (Nat.not_lt_zero _)) ?_⟩
    rintro σ H1 ⟨rfl, rfl⟩
    refine ⟨_, rfl, l, [], rfl, .inl (SqL.of upd_same), _, _, rfl, rfl, _, rfl, iteF2 (by decide) ?_⟩
    exact ⟨_, rfl, k d _ sm nd (by rw [upd_ne ld.symm, upd_same])⟩
end
end K98
/-! K98Eng2 -/
set_option Elab.async false
set_option linter.all false
set_option maxRecDepth 100000
set_option maxHeartbeats 4000000
namespace K98
open PySem PySem.Spec PyProof.Rows L2
section
variable {w : World} {K : Fg} {mg : Str → Option Value} {base : Heap}
def spCheckP (K : Fg) : Sp := fun vs H Q _ => ∃ a, vs = [.ref a] ∧ H a = some (.dK []) ∧ ∀ H', Same H H' → Q .non H'
theorem ok_check_places (T : TX K mg) : FnG w K mg base CX0 2 (a_check_places K) P_check_places [] (spCheckP K) := by
  obtain ⟨fd, F⟩ := T.D_check_places
  obtain ⟨fO, dO, GO, bO, vO, kO'⟩ := ok_in_order (w := w) (base := base) T
  cases vO
  refine ⟨fd, [], F.ok sc_check_places (fun vs H Q E h => ?_) (fun cdv A outer s H vs Q E hr h => ?_), F.bindsN fun _ _ _ _ _ _ us hl => match us, hl with | [_], _ => rfl, .nil, F.kp⟩
  · obtain ⟨a, rfl, _⟩ := h
    rfl
  · obtain ⟨a, rfl, ha, k⟩ := h
    refine ⟨_, PSs.nox (pss_cons (ps_set (i := 1) sc_check_places.nd rfl (Or.inl rfl) pe_dnewK)
      (pss_one (ps_for PassesOwn.never rfl (pi_list (pe_call GO hr (by rfl) T.g_in_order kO' bO .nil pass0 (pa_cons (pe_callTy (call_listD rfl) (by rfl) T.n_list (by decide +kernel) (pa_cons (pv 0) pa_nil)) pa_nil))) (pg_name (i := 2) sc_check_places.nd rfl (Or.inl rfl))
        (pss_cons ps_never (pss_cons ps_never (pss_cons ps_never (pss_cons ps_never (pss_cons ps_never (pss_one ps_never))))))))), ?_⟩
    intro d nd
    have s1 : Same H (upd H d (.dK [])) := same_upd (Same.refl H) nd
    refine ⟨_, rfl, a, [], rfl, .inl (s1 _ _ ha), fun l nl => ?_⟩
    have s2 := same_upd (o := .lst []) s1 (upd_none nl).2
    refine ⟨l, rfl, SqL.of upd_same, fun p H1 s3 np hp => ?_⟩
    refine ⟨p, rfl, ⟨[], SqL.of hp⟩, for_it (walk_list (xs := [])) (fun i σ H' => H' = H1) rfl (fun i σ H' _ e => by rw [e]; exact SqL.of hp) (fun i x σ H1 H2 hi => absurd hi (Nat.not_lt_zero _)) ?_⟩
    rintro σ H2 rfl
    exact k _ (s2.trans s3)
/-- a record of no steps -/
def spRecInit (K : Fg) : Sp := fun vs H Q _ => ∃ (x dx t : Addr), vs = [.ref x, .ref t, .non] ∧ H x = some (.ins (He.ga K "Record") dx []) ∧ SqT K H t [] ∧ ∀ H', (∀ b o, b ≠ x → H b = some o → H' b = some o) → Q .non H'
theorem binds_rec {fd : FuncData} (F : FunD K "__init__" "Record.__init__" (defArgs s_Record_init) (defBody s_Record_init) (defScope s_Record_init) (d_Record_init.dvs K) [] (a_Record_init K) fd) :
    ∃ ds, Vals [V.ref (dRec K), V.non] ds ∧ Binds K fd P_Record_init ds :=
  F.binds1 1 0 (by intro z; cases z) rfl fun T kV doc pm an cdv ct us its h1 h2 => match us, its, h1, h2 with
    | [_], [_, _], _, _ => ⟨_, rfl, rfl⟩
theorem ok_rec_init (T : TX K mg) : FnG w K mg base CX0 3 (a_Record_init K) P_Record_init [.ref (dRec K), .non] (spRecInit K) := by
  obtain ⟨fd, F⟩ := T.D_Record_init
  obtain ⟨fG, dG, GG, bG, vG, kG'⟩ := ok_gathered (w := w) (base := base) T
  obtain ⟨fC, dC, GC, bC, vC, kC'⟩ := ok_check_places (w := w) (base := base) T
  cases vG
  cases vC
  obtain ⟨ds, hv, hb⟩ := binds_rec F
  refine ⟨fd, ds, F.ok sc_Record_init (fun vs H Q E h => ?_) (fun cdv A outer s H vs Q E hr h => ?_), hb, hv, F.kp⟩
  · obtain ⟨x, dx, t, rfl, _⟩ := h
    rfl
  · obtain ⟨x, dx, t, rfl, hx, ht, k⟩ := h
    have hr1 : Room 1 _ := hr.mono (by decide)
    refine ⟨_, pss_cons (ps_fld (pv 0) (pe_ifExp (pt_cmp (pc_isN (pv 2))) (pe_call GG hr1 (by rfl) T.g_gathered kG' bG .nil pass0 (pa_cons (pv 1) pa_nil)) (pv 2)) rfl)
      (pss_one (ps_if (pt_cmp (pc_isN (pv 2))) (pss_one (ps_expr (pe_call GC hr (by rfl) T.g_check_places kC' bC .nil pass0 (pa_cons (pe_fld (pv 0) rfl) pa_nil)))) pss_nil)), ?_⟩
    refine ⟨_, rfl, _, rfl, iteT2 rfl ?_⟩
    refine ⟨_, rfl, t, rfl, ht, fun p H1 s1 np hp => ?_⟩
    have px : p ≠ x := (ne_of_none hx np).symm
    refine ⟨_, rfl, x, He.ga K "Record", dx, [], rfl, s1 _ _ hx, T.c_Record, T.at_Record_held, (by show 0 < 1000; decide), ?_⟩
    refine ⟨_, rfl, _, rfl, iteT2 rfl ?_⟩
    refine ⟨_, rfl, x, He.ga K "Record", dx, _, _, rfl, upd_same, T.c_Record, T.at_Record_held, rfl, p, rfl, (by rw [upd_ne px]; exact hp), fun H2 s2 => ?_⟩
    exact k H2 fun b o hb e => s2 b o (by rw [upd_ne hb]; exact s1 b o e)
end
end K98
/-! K98Ses0 -/
set_option Elab.async false
set_option linter.all false
set_option maxRecDepth 100000
set_option maxHeartbeats 4000000
/-! Workshop, Engine, Session: their making -/
namespace K98
open PySem PySem.Spec PyProof.Rows L2
section
variable {w : World} {K : Fg} {mg : Str → Option Value} {base : Heap}
/-- all stands but what stands at x -/
def But (x : Addr) (H H' : Hp) : Prop := ∀ b o, b ≠ x → H b = some o → H' b = some o
theorem But.of_same {x : Addr} {H H' : Hp} (e : Same H H') : But x H H' := fun b o _ h => e b o h
theorem But.trans {x : Addr} {H H1 H2 : Hp} (a : But x H H1) (b : But x H1 H2) : But x H H2 := fun c o hc h => b c o hc (a c o hc h)
theorem But.upd {x : Addr} {H H1 : Hp} {o : HO} (a : But x H H1) : But x H (upd H1 x o) := fun b u hb e => by rw [upd_ne hb]; exact a b u hb e
theorem But.new {x p : Addr} {H H1 : Hp} {o : HO} (a : But x H H1) (h : H1 p = none) : But x H (L2.upd H1 p o) := fun b u hb e => by
  have z := a b u hb e
  rw [upd_ne (ne_of_none z h)]
  exact z
theorem But.free {x : Addr} {H H' : Hp} (a : But x H H') {b : Addr} (hb : b ≠ x) (h : H' b = none) : H b = none := by
  cases e : H b with
  | none => rfl
  | some o =>
    have z := a b o hb e
    rw [h] at z
    cases z
def spWsInit (K : Fg) : Sp := fun vs H Q _ => ∃ (x dx d : Addr), vs = [.ref x, .ref d] ∧ H x = some (.ins (He.ga K "Workshop") dx []) ∧ H d = some (.dK []) ∧ ∀ H', But x H H' → Q .non H'
theorem ok_ws_init (T : TX K mg) : FnG w K mg base CX0 1 (a_Workshop_init K) P_Workshop_init [] (spWsInit K) := by
  obtain ⟨fd, F⟩ := T.D_Workshop_init
  refine ⟨fd, [], F.ok sc_Workshop_init (fun vs H Q E h => ?_) (fun cdv A outer s H vs Q E hr h => ?_), F.bindsN fun _ _ _ _ _ _ us hl => match us, hl with | [_, _], _ => rfl, .nil, F.kp⟩
  · obtain ⟨x, dx, d, rfl, _⟩ := h
    rfl
  · obtain ⟨x, dx, d, rfl, hx, hd, k⟩ := h
    refine ⟨_, pss_one (ps_fld (pv 0) (pe_callTy call_dictD (by rfl) T.n_dict (by decide +kernel) (pa_cons (pv 1) pa_nil)) rfl), ?_⟩
    refine ⟨_, rfl, d, [], rfl, .inl hd, fun p hp => ?_⟩
    refine ⟨_, rfl, x, _, dx, [], rfl, (by rw [upd_ne (ne_of_none hx hp)]; exact hx), T.c_Workshop, T.at_Workshop_kept, (by show 0 < 1000; decide), ?_⟩
    exact k _ ((But.of_same (same_upd (Same.refl H) hp)).upd)
def engF (wv rv : V) (tk : Addr) (rn : V) : List (Str × V) := [("workshop", wv), ("seen", rv), ("taken", .ref tk), ("runs", rn), ("again", .int 0)]
def spEngInit (K : Fg) : Sp := fun vs H Q _ => ∃ (x dx : Addr) (wv : V), vs = [.ref x, wv, .non] ∧ H x = some (.ins (cEng K) dx []) ∧
  ∀ rv tk rn H', But x H H' → H' x = some (.ins (cEng K) dx (engF wv rv tk rn)) → H' tk = some (.lst []) → H tk = none → Q .non H'
theorem ok_eng_init (T : TX K mg) : ∃ fd, FnOk R.prog w K mg base CX0 5 (a_Engine_init K) fd P_Engine_init (spEngInit K) ∧ ∃ mv : List Value, KBn K fd P_Engine_init 2 ["record"] (fun us ws => us ++ ws) (fun vs zs => vs ++ zs) := by
  obtain ⟨fd, F⟩ := T.D_Engine_init
  obtain ⟨fR, dR, GR, bR, vR, kR'⟩ := ok_rec_init (w := w) (base := base) T
  refine ⟨fd, F.ok sc_Engine_init (fun vs H Q E h => ?_) (fun cdv A outer s H vs Q E hr h => ?_), ?_⟩
  · obtain ⟨x, dx, wv, rfl, _⟩ := h
    rfl
  · obtain ⟨x, dx, wv, rfl, hx, k⟩ := h
    refine ⟨_, pss_cons (ps_fld (pv 0) (pv 1) rfl)
      (pss_cons (ps_fld (pv 0) (pe_ifExp (pt_cmp (pc_isN (pv 2))) (pe_make0 T.mk_Record GR hr (by rfl) T.g_Record bR vR pass0) (pv 2)) rfl)
      (pss_cons (ps_fld (pv 0) (pe_lst pa_nil) rfl)
      (pss_cons (ps_fld (pv 0) (pe_lst pa_nil) rfl)
      (pss_one (ps_fld (pv 0) pe_int rfl))))), ?_⟩
    refine ⟨_, rfl, _, rfl, x, cEng K, dx, [], rfl, hx, T.c_Engine, T.at_Engine_workshop, (by show 0 < 1000; decide), ?_⟩
    have b1 : But x H (upd H x (.ins (cEng K) dx [("workshop", wv)])) := (But.of_same (Same.refl H)).upd
    refine ⟨_, rfl, _, rfl, iteT2 rfl ?_⟩
    intro r dr nr ndr ner
    have rx : r ≠ x := fun e => by rw [e, upd_same] at nr; cases nr
    have drx : dr ≠ x := fun e => by rw [e, upd_same] at ndr; cases ndr
    refine ⟨r, dr, dRec K, rfl, upd_same, T.tup0 _, fun H2 s2 => ⟨rfl, ?_⟩⟩
    have b2 : But x H H2 := fun b o hb e => s2 b o (fun e2 => by rw [e2] at e; have := b1.free rx nr; rw [this] at e; cases e) (by
      rw [upd_ne (fun e2 => by rw [e2] at e; have := b1.free rx nr; rw [this] at e; cases e), upd_ne (fun e2 => by rw [e2] at e; have := b1.free drx ndr; rw [this] at e; cases e)]
      exact b1 b o hb e)
    have h2x : H2 x = some (.ins (cEng K) dx [("workshop", wv)]) := s2 x _ rx.symm (by rw [upd_ne rx.symm, upd_ne drx.symm, upd_same]; rfl)
    refine ⟨_, rfl, x, cEng K, dx, _, rfl, h2x, T.c_Engine, T.at_Engine_seen, (by show 1 < 1000; decide), ?_⟩
    refine ⟨Nat.zero_le _, fun tk ntk => ?_⟩
    have tkx : tk ≠ x := fun e => by rw [e, upd_same] at ntk; cases ntk
    have ntk2 : H2 tk = none := (upd_none ntk).2
    refine ⟨_, rfl, x, cEng K, dx, _, rfl, by rw [upd_ne tkx.symm, upd_same], T.c_Engine, T.at_Engine_taken, (by show 2 < 1000; decide), ?_⟩
    refine ⟨Nat.zero_le _, fun rn nrn => ?_⟩
    obtain ⟨rnx, nrn⟩ := upd_none nrn
    obtain ⟨rntk, nrn⟩ := upd_none nrn
    refine ⟨_, rfl, x, cEng K, dx, _, rfl, by rw [upd_ne rnx.symm, upd_same], T.c_Engine, T.at_Engine_runs, (by show 3 < 1000; decide), ?_⟩
    refine ⟨_, rfl, x, cEng K, dx, _, rfl, upd_same, T.c_Engine, T.at_Engine_again, (by show 4 < 1000; decide), ?_⟩
    refine k (.ref r) tk (.ref rn) _ (((((((b2.upd).new ntk).upd).new (by rw [upd_ne rnx, upd_ne rntk]; exact nrn)).upd).upd)) ?_ ?_ (b2.free tkx ntk2)
    · rw [upd_same]
      rfl
    · rw [upd_ne tkx, upd_ne tkx, upd_ne rntk.symm, upd_ne tkx, upd_same]
  · exact F.kbinds0 2 ["record"] [] (fun us mv ws => us ++ ws) (by intro z; cases z) (fun q hq => nomatch hq) (fun r1 r2 r3 => r1.append r3) fun D doc pm an cdv ct us mv ws h1 h2 h3 => match us, mv, ws, h1, h2, h3 with
      | [_, _], [], [_], _, _, _ => rfl
def sesF (e cur L : Addr) (fl : Nat) : List (Str × V) := [("engine", .ref e), ("current", .ref cur), ("past", .ref L), ("floor", .int (fl : Int))]
/-- a session: its engine at e, its project at cur, its past at L, its floor -/
structure SesAt (K : Fg) (H : Hp) (S e cur L : Addr) (items : List V) (fl : Nat) : Prop where
  ins : ∃ dx, H S = some (.ins (cSes K) dx (sesF e cur L fl))
  lst : H L = some (.lst items)
  eng : ∃ de wv rv tk rn, H e = some (.ins (cEng K) de (engF wv rv tk rn)) ∧ H tk = some (.lst []) ∧ tk ≠ L
def spSesInit (K : Fg) : Sp := fun vs H Q _ => ∃ (x dx p : Addr) (wv : V), vs = [.ref x, wv, .ref p, .non] ∧ H x = some (.ins (cSes K) dx []) ∧
  ∀ e L H', But x H H' → H L = none → SesAt K H' x e p L [] 0 → Q .non H'
theorem ok_ses_init (T : TX K mg) : FnG w K mg base CX0 7 (a_Session_init K) P_Session_init [.non] (spSesInit K) := by
  obtain ⟨fd, F⟩ := T.D_Session_init
  obtain ⟨fE, GE, mv, kE⟩ := ok_eng_init (w := w) (base := base) T
  obtain ⟨ds, hv, hb⟩ : ∃ ds, Vals [V.non] ds ∧ Binds K fd P_Session_init ds := F.binds0 3 (by intro z; cases z) rfl fun D doc pm an cdv ct us ks h1 h2 => match us, ks, h1, h2 with
    | [_, _, _], [_], _, _ => ⟨_, _, _, _, _, _, rfl, rfl, rfl⟩
  refine ⟨fd, ds, F.ok sc_Session_init (fun vs H Q E h => ?_) (fun cdv A outer s H vs Q E hr h => ?_), hb, hv, F.kp⟩
  · obtain ⟨x, dx, p, wv, rfl, _⟩ := h
    rfl
  · obtain ⟨x, dx, p, wv, rfl, hx, k⟩ := h
    refine ⟨_, pss_cons (ps_fld (pv 0) (pe_makeK T.mk_Engine GE hr (by rfl) T.g_Engine kE pass0 (pa_cons (pv 1) pa_nil) (pk_cons (pv 3) pk_nil)) rfl)
      (pss_cons (ps_fld (pv 0) (pv 2) rfl)
      (pss_cons (ps_fld (pv 0) (pe_lst pa_nil) rfl)
      (pss_one (ps_fld (pv 0) pe_int rfl)))), ?_⟩
    refine ⟨_, rfl, _, rfl, rfl, rfl, ?_⟩
    intro e de ne nde nee
    refine ⟨e, de, wv, rfl, upd_same, fun rv tk rn H2 b2 he htk ntk => ⟨rfl, ?_⟩⟩
    have ex : e ≠ x := (ne_of_none hx ne).symm
    have s1 : But x H H2 := fun b o hb q => b2 b o (fun y => by rw [y, ne] at q; cases q) (by
      rw [upd_ne (fun y => by rw [y, ne] at q; cases q), upd_ne (fun y => by rw [y, nde] at q; cases q)]
      exact q)
    have hx2 : H2 x = some (.ins (cSes K) dx []) := b2 x _ ex.symm (by rw [upd_ne ex.symm, upd_ne (ne_of_none hx nde)]; exact hx)
    have tkx : tk ≠ x := ne_of htk hx2 (by intro z; cases z)
    refine ⟨_, rfl, x, cSes K, dx, [], rfl, hx2, T.c_Session, T.at_Session_engine, (by show 0 < 1000; decide), ?_⟩
    refine ⟨_, rfl, _, rfl, x, cSes K, dx, _, rfl, upd_same, T.c_Session, T.at_Session_current, (by show 1 < 1000; decide), ?_⟩
    refine ⟨Nat.zero_le _, fun L nL => ?_⟩
    obtain ⟨Lx, nL⟩ := upd_none nL
    obtain ⟨_, nL⟩ := upd_none nL
    refine ⟨_, rfl, x, cSes K, dx, _, rfl, by rw [upd_ne Lx.symm, upd_same], T.c_Session, T.at_Session_past, (by show 2 < 1000; decide), ?_⟩
    refine ⟨_, rfl, x, cSes K, dx, _, rfl, upd_same, T.c_Session, T.at_Session_floor, (by show 3 < 1000; decide), ?_⟩
    refine k e L _ ((((s1.upd).upd).new (by rw [upd_ne Lx, upd_ne Lx]; exact nL)).upd).upd (s1.free Lx nL) ⟨⟨dx, by rw [upd_same]; rfl⟩, by rw [upd_ne Lx, upd_ne Lx, upd_same], de, wv, rv, tk, rn, ?_, ?_, ne_of_none htk nL⟩
    · rw [upd_ne ex, upd_ne ex, upd_ne (ne_of_none he nL), upd_ne ex, upd_ne ex]
      exact he
    · rw [upd_ne tkx, upd_ne tkx, upd_ne (ne_of_none htk nL), upd_ne tkx, upd_ne tkx]
      exact htk
end
end K98
/-! K98Needs -/
set_option Elab.async false
set_option linter.all false
set_option maxRecDepth 100000
set_option maxHeartbeats 4000000
/-! traces and needs over a project of sources alone -/
namespace K98
open PySem PySem.Spec PyProof.Rows L2
def tNo : TE := fun _ _ _ => False
theorem pe_no {X : Cx} {e : Expr} : PE X e tNo := ⟨fun _ _ _ _ _ _ h => False.elim h⟩
section
variable {w : World} {K : Fg} {mg : Str → Option Value} {base : Heap}
abbrev cTr (K : Fg) : Addr := He.ga K "Traces"
def TrAt (K : Fg) (H : Hp) (t p : Addr) : Prop := ∃ dx d, H t = some (.ins (cTr K) dx [("world", .ref p), ("made", .ref d)]) ∧ H d = some (.dK [])
theorem TrAt.same {H H' : Hp} {t p : Addr} (a : TrAt K H t p) (e : Same H H') : TrAt K H' t p := let ⟨dx, d, h1, h2⟩ := a; ⟨dx, d, e _ _ h1, e _ _ h2⟩
def spTrInit (K : Fg) : Sp := fun vs H Q _ => ∃ (t dx p : Addr) (g : V) (ks : KVs), vs = [.ref t, .ref p, g] ∧ H t = some (.ins (cTr K) dx []) ∧ ProjAt K H p ks ∧ ∀ H', But t H H' → TrAt K H' t p → Q .non H'
theorem ProjAt.but {H H' : Hp} {p t : Addr} {ks : KVs} (A : ProjAt K H p ks) (e : But t H H') {C dx : Addr} (ht : H t = some (.ins C dx [])) : ProjAt K H' p ks := by
  obtain ⟨⟨dy, g, h1, h2⟩, nd, ky, ln, sr⟩ := A
  refine ⟨⟨dy, g, e _ _ (ne_of h1 ht (fun z => by have y := (HO.ins.inj z).2.2; cases y)) h1, e _ _ (ne_of h2 ht (by intro z; cases z)) h2⟩, nd, ky, ln, fun x hx => ?_⟩
  obtain ⟨a, o, e1, ⟨dz, g', h3, h4⟩, ok⟩ := sr x hx
  exact ⟨a, o, e1, ⟨dz, g', e _ _ (ne_of h3 ht (fun z => by have y := (HO.ins.inj z).2.2; cases y)) h3, e _ _ (ne_of h4 ht (by intro z; cases z)) h4⟩, ok⟩
theorem ok_tr_init (T : TX K mg) : FnG w K mg base CX0 3 (a_Traces_init K) P_Traces_init [] (spTrInit K) := by
  obtain ⟨fd, F⟩ := T.D_Traces_init
  obtain ⟨fN, dN, GN, bN, vN, kN'⟩ := ok_names (w := w) (base := base) T
  obtain ⟨fG, dG, GG, bG, vG, kG'⟩ := ok_prj_get (w := w) (base := base) T
  cases vN
  cases vG
  refine ⟨fd, [], F.ok sc_Traces_init (fun vs H Q E h => ?_) (fun cdv A outer s H vs Q E hr h => ?_), F.bindsN fun _ _ _ _ _ _ us hl => match us, hl with | [_, _, _], _ => rfl, .nil, F.kp⟩
  · obtain ⟨t, dx, p, g, ks, rfl, _⟩ := h
    rfl
  · obtain ⟨t, dx, p, g, ks, rfl, ht, A, k⟩ := h
    have hr1 : Room 1 _ := hr.mono (by decide)
    refine ⟨_, PSs.nox (pss_cons (ps_fld (pv 0) (pv 1) rfl)
      (pss_cons (ps_fld (pv 0) pe_dnewK rfl)
      (pss_cons (ps_for PassesOwn.never rfl (pi_tup (pe_prop (pv 1) T.c_Project T.p_names GN hr bN .nil pass0 rfl)) (pg_name (i := 3) sc_Traces_init.nd rfl (Or.inl rfl))
        (pss_one (ps_if (pt_val (pe_callB call_isi (by rfl) T.n_isinstance (by decide +kernel) (pa_cons (pe_getC GG (T.m_Project_getitem).1 (T.m_Project_getitem).2 T.fn_get bG pass0 hr (pv 1) (pv 3)) (pa_cons (pe_glob (by rfl) T.g_Made (show RelV (.ref (He.ga K "Made")) (.ref (He.ga K "Made")) from rfl)) pa_nil)))) (pss_one ps_never) pss_nil)))
      (pss_cons (ps_set (i := 4) sc_Traces_init.nd rfl (Or.inl rfl) pe_bl)
      (pss_one (ps_while PassesOwn.never (pt_val (pv 4)) (pss_one (ps_set (i := 4) sc_Traces_init.nd rfl (Or.inl rfl) (pe_callB (cr_any rfl) (by rfl) T.n_any (by decide +kernel) (pa_cons (pe_lock (pe_lc (own := [("trace", 5)]) (g := gName 5) (tt := tYes) rfl sc_Traces_init.nd (pi_values (pe_fld (pv 0) rfl))
        (blkOk_by (N := N_Traces_init) (sc := defScope s_Traces_init) (by decide +kernel)) (fun _ _ _ _ _ => pg_name (i := 5) sc_Traces_init.nd rfl (Or.inl rfl)) (fun _ _ _ _ _ => pts_nil) (fun _ _ _ _ _ => pe_no))) pa_nil)))))))))), ?_⟩
    refine ⟨_, rfl, _, rfl, t, cTr K, dx, [], rfl, ht, T.c_Traces, T.at_Traces_world, (by show 0 < 1000; decide), ?_⟩
    have b1 : But t H (upd H t (.ins (cTr K) dx (putF "world" (.ref p) []))) := (But.of_same (Same.refl H)).upd
    intro d nd
    have dt : d ≠ t := (upd_none nd).1
    refine ⟨_, rfl, t, cTr K, dx, _, rfl, by rw [upd_ne dt.symm, upd_same], T.c_Traces, T.at_Traces_made, (by show 1 < 1000; decide), ?_⟩
    have b2 := (b1.new (o := .dK []) nd).upd (o := .ins (cTr K) dx (putF "made" (.ref d) (putF "world" (.ref p) [])))
    generalize hH2 : upd (upd (upd H t (.ins (cTr K) dx (putF "world" (.ref p) []))) d (.dK [])) t (.ins (cTr K) dx (putF "made" (.ref d) (putF "world" (.ref p) []))) = H2 at b2 ⊢
    have t2 : H2 t = some (.ins (cTr K) dx [("world", .ref p), ("made", .ref d)]) := by rw [← hH2, upd_same]; rfl
    have d2 : H2 d = some (.dK []) := by rw [← hH2, upd_ne dt, upd_same]
    have A2 := A.but b2 ht
    obtain ⟨dxp, dp, p1, p2⟩ := A2.ins
    refine ⟨_, rfl, p, dxp, _, rfl, p1, p, ks, rfl, A2, fun tt H3 ys s3 htt l4 hy => ?_⟩
    refine ⟨tt, rfl, ⟨_, SqT.of htt⟩, for_it (walk_tup (xs := ys.map V.str)) (fun i σ H' => ∃ nm, σ = [some (.ref t), some (.ref p), some g, nm, none, none] ∧ Same H3 H') ⟨none, rfl, Same.refl _⟩ (fun i σ H' _ ⟨_, _, s4⟩ => SqT.of (s4 _ _ htt)) ?_ ?_⟩
    · rintro i x σ H4 H5 hi ⟨nm, rfl, s4⟩ ⟨rfl, hx⟩
      obtain ⟨y, hy1, rfl⟩ : ∃ y, y ∈ ys ∧ x = V.str y := by
        rw [List.getElem?_map] at hx
        cases e : ys[i]? with
        | none => rw [e] at hx; cases hx
        | some y =>
          rw [e] at hx
          exact ⟨y, List.mem_of_getElem? e, (Option.some.inj hx).symm⟩
      have A4 := A2.same (s3.trans s4)
      obtain ⟨v, hv⟩ := Option.isSome_iff_exists.mp (hy y hy1)
      obtain ⟨s0, o0, ev, S0⟩ := A4.src _ (valV_mem hv)
      have ev' : v = .ref s0 := ev
      subst ev'
      obtain ⟨dz, gz, i1, i2⟩ := S0.ins
      refine ⟨_, rfl, _, rfl, p, dxp, _, rfl, (s3.trans s4) _ _ p1, p, ks, y, _, rfl, A4, hv, _, _, _, _, false, rfl, .own _, T.ty_src i1, T.k_sm, false, rfl, iteF2 rfl ?_⟩
      exact ⟨_, rfl, s4⟩
    · rintro σ H4 ⟨nm, rfl, s4⟩
      have s24 := s3.trans s4
      refine ⟨fun m σ H' => (∃ b : Bool, σ = [some (.ref t), some (.ref p), some g, nm, some (.bl b), none] ∧ m = if b = true then 1 else 0) ∧ Same H2 H', ⟨1, ⟨true, rfl, rfl⟩, s24⟩, ?_⟩
      rintro m σ H5 ⟨⟨b, rfl, rfl⟩, s5⟩
      refine ⟨_, rfl, b, rfl, ?_⟩
      cases b with
      | false =>
        refine iteF2 rfl ?_
        exact k H5 (b2.trans (But.of_same s5)) ⟨dx, d, s5 _ _ t2, s5 _ _ d2⟩
      | true =>
        refine iteT2 rfl ⟨fun σ' H' => σ' = [some (.ref t), some (.ref p), some g, nm, some (.bl false), none] ∧ Same H2 H', fun σ' H' ⟨e1, e2⟩ => ⟨0, by decide, ⟨false, e1, rfl⟩, e2⟩, ?_⟩
        refine ⟨d, .dK [], s5 _ _ d2, trivial, fun od => ?_⟩
        have td : t ≠ d := dt.symm
        refine ⟨_, rfl, t, cTr K, dx, _, _, rfl, by rw [upd_ne td]; exact s5 _ _ t2, T.c_Traces, T.at_Traces_made, rfl, d, od, [], rfl, upd_same, fun D nD => ?_⟩
        obtain ⟨Dd, nD⟩ := upd_none nD
        refine lc_it (walk_values (d := d) (o := od) (kvs := [])) (fun i H' => H' = upd (upd H5 d (.frz od (.dK []))) D (.lst [])) rfl (fun i H' _ e => by rw [e, upd_ne Dd.symm, upd_same]) (fun i x H1 H2 hi => absurd hi (Nat.not_lt_zero _)) ?_
        rintro H6 rfl
        refine ⟨by rw [upd_ne Dd.symm, upd_same], ?_⟩
        have D6 : (upd (upd (upd H5 d (.frz od (.dK []))) D (.lst [])) d (.dK [])) D = some (.lst []) := by rw [upd_ne Dd, upd_same]
        refine ⟨D, [], rfl, SqL.of D6, rfl, fun b o e => ?_⟩
        have e5 := s5 b o e
        by_cases c : b = d
        · subst c
          rw [upd_same, ← e, d2]
        · rw [upd_ne c, upd_ne (ne_of_none e5 nD), upd_ne c]
          exact e5
end
end K98
/-! K98Match -/
set_option Elab.async false
set_option linter.all false
set_option maxRecDepth 100000
set_option maxHeartbeats 400000
/-! match e: case ['z', n]: body (taken) .. -/
namespace K98
open PySem PySem.Spec PyProof.Rows L2
section
variable {X : Cx}
/-- the subject is a pair of that text and a value -/
def tMatch2 (K : PySem.W.Frag) (z : Str) (i : Nat) (te : TE) (tb : TS) : TS := fun D σ H => te σ H fun v H1 => ∃ t x, v = .ref t ∧ SqT K H1 t [.str z, x] ∧ tb D (σ.set i (some x)) H1
theorem ps_match2 {e : Expr} {te : TE} {z n : Str} {j i : Nat} {cp vp ap sp pos : Pos} {body : List Stmt} {more : List MatchCase} {tb : TS} (hc : X.calm = true) (hN : X.N.Nodup) (hi : X.N[i]? = some n) (hx : Loc X.env.scope n) (he : PE X e te) (hb : PSs X body tb)
    (hf : X.fn n = true ∨ X.env.scope.names.lookup n = some .local := by first | exact .inl rfl | exact .inr rfl | assumption) :
    PS X (.Match e (⟨.MatchSequence [.MatchValue (.Constant (.str z) j cp) vp, .MatchAs none (some n) ap] sp, none, body⟩ :: more) pos) (tMatch2 X.K z i te tb) := by
  refine ⟨fun pins s σ H D I h => ?_⟩
  refine wpAny_Match (thn (he.run pins s σ H _ I h) fun v s1 ⟨y, H1, I1, r1, t, x, ey, hs, q⟩ => ?_)
  subst ey
  cases r1
  obtain ⟨its, rv, ht, hz⟩ := I1.tuple hs
  refine wpAny_matchCases_cons ?_
  cases rv with
  | @cons _ ua _ us ra rr =>
    cases rr with
    | @cons _ ub _ us' rb rn =>
      cases rn
      have two : (([ua, ub] : List Value).toArray.size : Int) < 2 ^ 63 := by
        show (2 : Int) < 2 ^ 63
        omega
      refine matchSeq_tuple_hit (items := [ua, ub].toArray) ht two rfl ?_ rfl rfl
      have ht2 : IsTup ({ s1 with toks := s1.toks + 1 + 1 } : Shared).heap t [ua, ub].toArray := ht
      have up := @unpackItems_tuple X.prog X.w X.A X.xe { s1 with toks := s1.toks + 1 + 1 } t [ua, ub].toArray
      refine up (I1.ok.hd hc) ht2 fun h' hx' => ?_
      have I2 : Inv X pins σ H1 { s1 with heap := h', toks := s1.toks + 1 + 1 } := I1.kept (t' := s1.toks + 1 + 1) fun b o e => hx' b o (Nat.ne_of_lt (Heap.lt_size e)) e
      show wpAny _ _ (matchEach _ X.env [ua, ub]) _ _ _
      refine wpAny_matchEach_cons ?_
      obtain ⟨tk, eu⟩ := (show ∃ tk, ua = Value.str z tk from ra)
      subst eu
      refine wpAny_matchPattern_Value ?_
      refine thn ((pe_str (X := X) (x := z) (j := j) (pos := cp)).run pins _ σ H1 (fun v H' => v = .str z ∧ H' = H1) I2 ⟨rfl, rfl⟩) fun v2 s2 hh => ?_
      obtain ⟨y2, H2, I3, r2, e2, eH⟩ := hh
      subst e2
      subst eH
      refine thn (op_eq (X := X) pins s2 σ H2 (.str z) (.str z) (.str z tk) v2 (fun v H' => v = .bl true ∧ H' = H2) I3 ra r2 ⟨rfl, ?_, rfl⟩) fun c s3 hh => ?_
      · show V.bl (decide (V.str z = V.str z)) = V.bl true
        rw [decide_eq_true rfl]
      obtain ⟨y3, H3, I4, r3, e3, eH3⟩ := hh
      subst e3
      subst eH3
      cases r3
      refine wpAny_truthy_bool ?_
      rw [if_pos rfl]
      refine wpAny_matchEach_cons ?_
      refine wpAny_matchPattern_Capture ?_
      refine wpAny_matchEach_nil ?_
      show wpAny _ _ (assignInOrder [bindName X.env n] [ub]) _ _ _
      refine wpAny_assignInOrder_more ?_
      unfold bindName
      refine wpAny_bind (wpAny_holding (wpAny_point (wpAny_bind (store_ok I4 hN hi hx rb (fun s5 I5 => wpAny_point ?_) hf))))
      refine wpAny_assignInOrder_none ?_
      exact hb.run pins s5 _ H3 D I5 q
end
end K98
/-! K98Needs2 -/
set_option Elab.async false
set_option linter.all false
set_option maxRecDepth 100000
set_option maxHeartbeats 4000000
namespace K98
open PySem PySem.Spec PyProof.Rows L2
def tNoT : TT := fun _ _ _ => False
theorem pt_no {X : Cx} {e : Expr} : PT X e tNoT := ⟨fun _ _ _ _ _ _ h => False.elim h⟩
section
variable {w : World} {K : Fg} {mg : Str → Option Value} {base : Heap}
/-- a key: a tuple of two texts -/
def KeyAt (H : Hp) (k : Addr) (n o : Str) : Prop := H k = some (.tup [.str n, .str o])
def spSettled (K : Fg) : Sp := fun vs H Q _ => ∃ (t p k : Addr) (n o : Str), vs = [.ref t, .ref k] ∧ TrAt K H t p ∧ KeyAt H k n o ∧ Q (.bl true) H
theorem ok_settled (T : TX K mg) : FnG w K mg base CX0 1 (a_Traces_is_settled K) P_Traces_is_settled [] (spSettled K) := by
  obtain ⟨fd, F⟩ := T.D_Traces_is_settled
  refine ⟨fd, [], F.ok sc_Traces_is_settled (fun vs H Q E h => ?_) (fun cdv A outer s H vs Q E hr h => ?_), F.bindsN fun _ _ _ _ _ _ us hl => match us, hl with | [_, _], _ => rfl, .nil, F.kp⟩
  · obtain ⟨t, p, k, n, o, rfl, _⟩ := h
    rfl
  · obtain ⟨t, p, k, n, o, rfl, ⟨dx, d, h1, h2⟩, hk, q⟩ := h
    refine ⟨_, pss_cons (ps_asg (pv 1) (pg_tup rfl (pgs_cons (pg_name (i := 2) sc_Traces_is_settled.nd rfl (Or.inl rfl)) (pgs_cons (pg_name (i := 3) sc_Traces_is_settled.nd rfl (Or.inl rfl)) pgs_nil))))
      (pss_cons (ps_if (pt_cmp (pc_dnotin (hu_of hr) (pv 2) (pe_fld (pv 0) rfl))) (pss_one (ps_ret pe_bl)) pss_nil) (pss_cons ps_never (pss_one ps_never))), ?_⟩
    refine ⟨_, rfl, k, _, rfl, SqT.of hk, rfl, _, _, rfl, _, _, rfl, rfl, ?_⟩
    exact ⟨_, rfl, _, rfl, t, cTr K, dx, _, _, rfl, h1, T.c_Traces, T.at_Traces_made, rfl, d, _, rfl, DGet.k (k := kS n) h2, _, rfl, iteT2 rfl q⟩
def spAnswer (K : Fg) : Sp := fun vs H Q _ => ∃ (t p k : Addr) (n o : Str) (ks : KVs), vs = [.ref t, .ref k] ∧ TrAt K H t p ∧ KeyAt H k n o ∧ ProjAt K H p ks ∧ ∀ v H', Same H H' → Q v H'
theorem ok_answer (T : TX K mg) : FnG w K mg base CX0 3 (a_Traces_answer K) P_Traces_answer [] (spAnswer K) := by
  obtain ⟨fd, F⟩ := T.D_Traces_answer
  obtain ⟨fG, dG, GG, bG, vG, kG'⟩ := ok_prj_get (w := w) (base := base) T
  obtain ⟨fC, dC, GC, bC, vC, kC'⟩ := ok_prj_in (w := w) (base := base) T
  obtain ⟨fO, dO, GO, bO, vO, kO'⟩ := ok_outputs (w := w) (base := base) T
  cases vG
  cases vC
  cases vO
  refine ⟨fd, [], F.ok sc_Traces_answer (fun vs H Q E h => ?_) (fun cdv A outer s H vs Q E hr h => ?_), F.bindsN fun _ _ _ _ _ _ us hl => match us, hl with | [_, _], _ => rfl, .nil, F.kp⟩
  · obtain ⟨t, p, k, n, o, ks, rfl, _⟩ := h
    rfl
  · obtain ⟨t, p, k, n, o, ks, rfl, ⟨dx, d, h1, h2⟩, hk, A, q⟩ := h
    have hr1 : Room 1 _ := hr.mono (by decide)
    obtain ⟨dxp, dp, p1, p2⟩ := A.ins
    refine ⟨_, pss_cons (ps_asg (pv 1) (pg_tup rfl (pgs_cons (pg_name (i := 2) sc_Traces_answer.nd rfl (Or.inl rfl)) (pgs_cons (pg_name (i := 3) sc_Traces_answer.nd rfl (Or.inl rfl)) pgs_nil))))
      (pss_cons (ps_if (pt_cmp (pc_din (hu_of hr) (pv 2) (pe_fld (pv 0) rfl))) (pss_one ps_never) pss_nil)
      (pss_one (ps_ret (pe_ifExp (pt_cmpR (op_inC GC (T.m_Project_contains).1 (T.m_Project_contains).2 bC pass0 hr1) (pv 2) (pe_fld (pv 0) rfl) (by rfl))
        (pe_dget1 (hu_of hr) (pe_prop (pe_getC GG (T.m_Project_getitem).1 (T.m_Project_getitem).2 T.fn_get bG pass0 hr (pe_fld (pv 0) rfl) (pv 2)) T.c_Source T.p_outputs GO hr bO .nil pass0 rfl) (pv 3) ⟨rfl, rfl, rfl, rfl⟩) pe_non)))), ?_⟩
    refine ⟨_, rfl, k, _, rfl, SqT.of hk, rfl, _, _, rfl, _, _, rfl, rfl, ?_⟩
    refine ⟨_, rfl, _, rfl, t, cTr K, dx, _, _, rfl, h1, T.c_Traces, T.at_Traces_made, rfl, d, _, rfl, DGet.k (k := kS n) h2, _, rfl, iteF2 rfl ?_⟩
    refine ⟨_, rfl, _, rfl, t, cTr K, dx, _, _, rfl, h1, T.c_Traces, T.at_Traces_world, rfl, p, dxp, _, rfl, p1, p, ks, n, rfl, A, _, rfl, _, rfl, ?_⟩
    cases hv : valV ks (kS n) with
    | none => exact iteF2 rfl (q _ _ (Same.refl H))
    | some v =>
      obtain ⟨s0, o0, ev, S⟩ := A.src _ (valV_mem hv)
      have ev' : v = .ref s0 := ev
      subst ev'
      obtain ⟨dz, g, i1, i2⟩ := S.ins
      refine iteT2 rfl ?_
      refine ⟨_, rfl, t, cTr K, dx, _, _, rfl, h1, T.c_Traces, T.at_Traces_world, rfl, _, rfl, p, dxp, _, rfl, p1, p, ks, n, _, rfl, A, hv, s0, dz, _, rfl, i1, s0, o0, rfl, S, fun c nc => ?_⟩
      refine ⟨c, rfl, .inl ⟨_, .inl upd_same⟩, _, rfl, _, DGet.k (k := kS o) upd_same, ?_⟩
      exact q _ _ (same_upd (Same.refl H) nc)
def spReadKeys (K : Fg) : Sp := fun vs H Q _ => ∃ (t p k : Addr) (n o : Str), vs = [.ref t, .ref k] ∧ TrAt K H t p ∧ KeyAt H k n o ∧ ∀ l, H l = none → Q (.ref l) (upd H l (.lst []))
theorem ok_read_keys (T : TX K mg) : FnG w K mg base CX0 1 (a_read_keys K) P_read_keys [] (spReadKeys K) := by
  obtain ⟨fd, F⟩ := T.D_read_keys
  refine ⟨fd, [], F.ok sc_read_keys (fun vs H Q E h => ?_) (fun cdv A outer s H vs Q E hr h => ?_), F.bindsN fun _ _ _ _ _ _ us hl => match us, hl with | [_, _], _ => rfl, .nil, F.kp⟩
  · obtain ⟨t, p, k, n, o, rfl, _⟩ := h
    rfl
  · obtain ⟨t, p, k, n, o, rfl, ⟨dx, d, h1, h2⟩, hk, q⟩ := h
    refine ⟨_, pss_cons (ps_asg (pv 1) (pg_tup rfl (pgs_cons (pg_name (i := 2) sc_read_keys.nd rfl (Or.inl rfl)) (pgs_cons (pg_name (i := 3) sc_read_keys.nd rfl (Or.inl rfl)) pgs_nil))))
      (pss_cons (ps_if (pt_cmp (pc_dnotin (hu_of hr) (pv 2) (pe_fld (pv 0) rfl))) (pss_one (ps_ret (pe_lst pa_nil))) pss_nil) (pss_cons ps_never (pss_cons ps_never (pss_cons ps_never (pss_one ps_never))))), ?_⟩
    refine ⟨_, rfl, k, _, rfl, SqT.of hk, rfl, _, _, rfl, _, _, rfl, rfl, ?_⟩
    exact ⟨_, rfl, _, rfl, t, cTr K, dx, _, _, rfl, h1, T.c_Traces, T.at_Traces_made, rfl, d, _, rfl, DGet.k (k := kS n) h2, _, rfl, iteT2 rfl ⟨Nat.zero_le _, q⟩⟩
end
end K98
/-! K98Needs3 -/
set_option Elab.async false
set_option linter.all false
set_option maxRecDepth 100000
set_option maxHeartbeats 4000000
namespace K98
open PySem PySem.Spec PyProof.Rows L2
section
variable {w : World} {K : Fg} {mg : Str → Option Value} {base : Heap}
def spDemanded (K : Fg) : Sp := fun vs H Q _ => ∃ (t p l k : Addr) (n o : Str), vs = [.ref t, .ref l] ∧ TrAt K H t p ∧ SqL K H l [.ref k] ∧ KeyAt H k n o ∧ ∀ r b H', Same H H' → H' r = some (.lst [.ref b]) → KeyAt H' b n o → Q (.ref r) H'
theorem ok_demanded (T : TX K mg) : FnG w K mg base CX0 2 (a_demanded_keys K) P_demanded_keys [] (spDemanded K) := by
  obtain ⟨fd, F⟩ := T.D_demanded_keys
  obtain ⟨fR, dR, GR, bR, vR, kR'⟩ := ok_read_keys (w := w) (base := base) T
  cases vR
  refine ⟨fd, [], F.ok sc_demanded_keys (fun vs H Q E h => ?_) (fun cdv A outer s H vs Q E hr h => ?_), F.bindsN fun _ _ _ _ _ _ us hl => match us, hl with | [_, _], _ => rfl, .nil, F.kp⟩
  · obtain ⟨t, p, l, k, n, o, rfl, _⟩ := h
    rfl
  · obtain ⟨t, p, l, k, n, o, rfl, tr, hl, hk, q⟩ := h
    have hu := hu_of hr
    refine ⟨_, PSs.nox (pss_cons (ps_set (i := 2) sc_demanded_keys.nd rfl (Or.inl rfl) pe_dnewT)
      (pss_cons (ps_set (i := 3) sc_demanded_keys.nd rfl (Or.inl rfl) (pe_callTy call_list_of (by rfl) T.n_list (by decide +kernel) (pa_cons (pv 1) pa_nil)))
      (pss_cons (ps_while PassesOwn.never (pt_cmpR op_gt (pe_callB call_len_seq (by rfl) T.n_len boot_len (pa_cons (pv 3) pa_nil)) pe_int (nomark _))
        (pss_cons (ps_set (i := 4) sc_demanded_keys.nd rfl (Or.inl rfl) (pe_bm0 PySem.F.plainAttrs_list PySem.F.slot_list_pop PySem.F.type_list_pop mt_pop (pv 3)))
        (pss_one (ps_if (pt_cmp (pc_dnotin hu (pv 4) (pv 2)))
          (pss_cons (ps_dput hu (pv 2) (pv 4) pe_bl rfl)
          (pss_one (ps_expr (pe_bm PySem.F.plainAttrs_list PySem.F.slot_list_extend PySem.F.type_list_extend mt_extend (pv 3) (pa_cons (pe_call GR hr (by rfl) T.g_read_keys kR' bR .nil pass0 (pa_cons (pv 0) (pa_cons (pv 4) pa_nil))) pa_nil))))) pss_nil))))
      (pss_one (ps_ret (pe_callB (call_sorted1 rfl) (by rfl) T.n_sorted (by decide +kernel) (pa_cons (pv 2) pa_nil))))))), ?_⟩
    intro f nf
    have s1 : Same H (upd H f (.dT [])) := same_upd (Same.refl H) nf
    refine ⟨_, rfl, l, _, rfl, .inl (hl.ext s1), fun l2 nl2 => ?_⟩
    obtain ⟨l2f, nl2⟩ := upd_none nl2
    have s2 : Same H (upd (upd H f (.dT [])) l2 (.lst [.ref k])) := same_upd s1 nl2
    -- W: one turn with [k] on the pile, then none
    refine ⟨fun m σ H' => (m = 1 ∧ σ = [some (.ref t), some (.ref l), some (.ref f), some (.ref l2), none] ∧ H' = upd (upd H f (.dT [])) l2 (.lst [.ref k])) ∨
      (m = 0 ∧ σ = [some (.ref t), some (.ref l), some (.ref f), some (.ref l2), some (.ref k)] ∧ Same H H' ∧ H' l2 = some (.lst []) ∧ H' f = some (.dT [([Sum.inr n, Sum.inr o], .bl true)])), ⟨1, .inl ⟨rfl, rfl, rfl⟩⟩, ?_⟩
    rintro m σ H5 (⟨rfl, rfl, rfl⟩ | ⟨rfl, rfl, s5, h5, f5⟩)
    · refine ⟨_, rfl, l2, _, rfl, .inl (SqL.of upd_same), _, _, rfl, rfl, _, rfl, iteT2 rfl ?_⟩
      refine ⟨fun σ' H' => σ' = [some (.ref t), some (.ref l), some (.ref f), some (.ref l2), some (.ref k)] ∧ Same H H' ∧ H' l2 = some (.lst []) ∧ H' f = some (.dT [([Sum.inr n, Sum.inr o], .bl true)]), fun σ' H' e => ⟨0, by decide, .inr ⟨rfl, e⟩⟩, ?_⟩
      refine ⟨_, rfl, .inl ⟨rfl, _, SqL.of upd_same⟩, l2, [.ref k], .ref k, rfl, rfl, upd_same, rfl, ?_⟩
      rw [upd_upd]
      have kl2 : k ≠ l2 := ne_of_none hk nl2
      have kf : k ≠ f := ne_of_none hk nf
      have hk3 : KeyAt (upd (upd H f (.dT [])) l2 (.lst ([V.ref k].dropLast))) k n o := by
        show (upd (upd H f (.dT [])) l2 (.lst ([V.ref k].dropLast))) k = _
        rw [upd_ne kl2, upd_ne kf]
        exact hk
      have hf3 : (upd (upd H f (.dT [])) l2 (.lst ([V.ref k].dropLast))) f = some (.dT []) := by rw [upd_ne l2f.symm, upd_same]
      refine ⟨_, rfl, _, rfl, f, _, rfl, DGet.t (k := [Sum.inr n, Sum.inr o]) hf3 hk3, _, rfl, iteT2 rfl ?_⟩
      refine ⟨_, rfl, _, rfl, f, _, rfl, DPut.t (k := [Sum.inr n, Sum.inr o]) hf3 hk3 (by show 0 < sizeLine; rw [sizeLine_eq]; omega), ?_⟩
      have tr4 : ∀ {H'}, Same H H' → TrAt K H' t p := fun e => tr.same e
      have s4 : Same H (upd (upd (upd H f (.dT [])) l2 (.lst ([V.ref k].dropLast))) f (.dT (putK [] [Sum.inr n, Sum.inr o] (.bl true)))) := same_upd (same_upd s1 nl2) nf
      refine ⟨_, rfl, .inl ⟨rfl, _, SqL.of (by rw [upd_ne l2f, upd_same])⟩, _, rfl, _, rfl, t, p, k, n, o, rfl, tr4 s4, s4 _ _ hk, fun e ne => ?_⟩
      obtain ⟨ef, ne1⟩ := upd_none ne
      obtain ⟨el2, ne2⟩ := upd_none ne1
      obtain ⟨_, neH⟩ := upd_none ne2
      refine ⟨l2, e, [], [], rfl, rfl, by rw [upd_ne el2.symm, upd_ne l2f, upd_same]; rfl, upd_same, Nat.zero_le _, ?_⟩
      refine ⟨rfl, same_upd (same_upd s4 neH) nl2, by rw [upd_same]; rfl, ?_⟩
      rw [upd_ne l2f.symm, upd_ne ef.symm, upd_same]
      rfl
    · refine ⟨_, rfl, l2, _, rfl, .inl (SqL.of h5), _, _, rfl, rfl, _, rfl, iteF2 rfl ?_⟩
      refine ⟨_, rfl, f, [Sum.inr n, Sum.inr o], .bl true, rfl, .inl f5, fun b r hb nr => ?_⟩
      exact q r b _ (same_upd s5 (s5.free nr)) upd_same (by
        show (upd H5 r (.lst [.ref b])) b = _
        rw [upd_ne (ne_of_none hb nr)]
        exact hb)
end
end K98
/-! K98Ask -/
set_option Elab.async false
set_option linter.all false
set_option maxRecDepth 100000
set_option maxHeartbeats 4000000
namespace K98
open PySem PySem.Spec PyProof.Rows L2
section
variable {w : World} {K : Fg} {mg : Str → Option Value} {base : Heap}
def spOpenA (K : Fg) : Sp := fun vs H Q _ => ∃ (t p l k : Addr) (n o : Str), vs = [.ref t, .ref l] ∧ TrAt K H t p ∧ SqL K H l [.ref k] ∧ KeyAt H k n o ∧ ∀ r H', Same H H' → H' r = some (.lst []) → Q (.ref r) H'
theorem ok_open_ahead (T : TX K mg) : FnG w K mg base CX0 3 (a_open_ahead K) P_open_ahead [] (spOpenA K) := by
  obtain ⟨fd, F⟩ := T.D_open_ahead
  obtain ⟨fR, dR, GR, bR, vR, kR'⟩ := ok_demanded (w := w) (base := base) T
  obtain ⟨fI, dI, GI, bI, vI, kI'⟩ := ok_in_order (w := w) (base := base) T
  cases vR
  cases vI
  refine ⟨fd, [], F.ok sc_open_ahead (fun vs H Q E h => ?_) (fun cdv A outer s H vs Q E hr h => ?_), F.bindsN fun _ _ _ _ _ _ us hl => match us, hl with | [_, _], _ => rfl, .nil, F.kp⟩
  · obtain ⟨t, p, l, k, n, o, rfl, _⟩ := h
    rfl
  · obtain ⟨t, p, l, k, n, o, rfl, tr, hl, hk, q⟩ := h
    have hu := hu_of hr
    have hr1 : Room 1 _ := hr.mono (by decide)
    refine ⟨_, PSs.nox (pss_cons (ps_set (i := 2) sc_open_ahead.nd rfl (Or.inl rfl) (pe_lst pa_nil))
      (pss_cons (ps_for PassesOwn.never rfl (pi_list (pe_call GR hr (by rfl) T.g_demanded_keys kR' bR .nil pass0 (pa_cons (pv 0) (pa_cons (pv 1) pa_nil)))) (pg_tup rfl (pgs_cons (pg_name (i := 3) sc_open_ahead.nd rfl (Or.inl rfl)) (pgs_cons (pg_name (i := 4) sc_open_ahead.nd rfl (Or.inl rfl)) pgs_nil)))
        (pss_cons (ps_set (i := 5) sc_open_ahead.nd rfl (Or.inl rfl) (pe_dget1 hu (pe_fld (pv 0) rfl) (pv 3) ⟨rfl, rfl, rfl, rfl⟩))
        (pss_one (ps_if (PW.pt (pw_and (pt_cmp (pc_notN (pv 5))) (pw_and pt_no (pw_and1 pt_no)))) (pss_one ps_never) pss_nil))))
      (pss_one (ps_ret (pe_call GI hr1 (by rfl) T.g_in_order kI' bI .nil pass0 (pa_cons (pv 2) pa_nil)))))), ?_⟩
    refine ⟨Nat.zero_le _, fun f nf => ?_⟩
    have s1 : Same H (upd H f (.lst [])) := same_upd (Same.refl H) nf
    refine ⟨_, rfl, _, rfl, t, p, l, k, n, o, rfl, tr.same s1, hl.ext s1, s1 _ _ hk, fun r b H2 s2 hr2 hb2 => ?_⟩
    have s12 := s1.trans s2
    have hf2 : H2 f = some (.lst []) := s2 _ _ upd_same
    refine ⟨r, rfl, ⟨_, SqL.of hr2⟩, for_it (walk_list (xs := [V.ref b])) (fun i σ H' => ∃ a3 a4 a5, σ = [some (.ref t), some (.ref l), some (.ref f), a3, a4, a5] ∧ H' = H2) ⟨_, _, _, rfl, rfl⟩ (fun i σ H' _ ⟨_, _, _, _, e⟩ => by rw [e]; exact SqL.of hr2) ?_ ?_⟩
    · rintro i x σ H4 H5 hi ⟨a3, a4, a5, rfl, rfl⟩ ⟨rfl, hx⟩
      have ex : x = V.ref b := by
        have i0 : i = 0 := Nat.lt_one_iff.mp hi
        subst i0
        exact (Option.some.inj hx).symm
      subst ex
      obtain ⟨dx, d, t1, t2⟩ := tr.same s12
      refine ⟨b, _, rfl, SqT.of hb2, rfl, _, _, rfl, _, _, rfl, rfl, ?_⟩
      refine ⟨_, rfl, t, cTr K, dx, _, _, rfl, t1, T.c_Traces, T.at_Traces_made, rfl, d, rfl, .inl ⟨_, .inl t2⟩, _, rfl, _, DGet.k (k := kS n) t2, ?_⟩
      refine ⟨_, rfl, _, rfl, iteF2 (by show (!decide (V.non = V.non)) = false; decide) (iteF2 rfl ?_)⟩
      exact ⟨_, _, _, rfl, rfl⟩
    · rintro σ H4 ⟨a3, a4, a5, rfl, rfl⟩
      exact ⟨_, rfl, f, rfl, SqL.of hf2, fun p3 H5 s5 n5 h5 => q p3 H5 (s12.trans s5) h5⟩
def spOpenP (K : Fg) : Sp := fun vs H Q _ => ∃ (p l k : Addr) (g : V) (n o : Str) (ks : KVs), vs = [.ref p, g, .ref l] ∧ ProjAt K H p ks ∧ SqL K H l [.ref k] ∧ KeyAt H k n o ∧ ∀ r H', Same H H' → H' r = some (.tup []) → Q (.ref r) H'
theorem SqL.but {H H' : Hp} {t l : Addr} {xs : List V} (h : SqL K H l xs) (e : But t H H') {C dx : Addr} (ht : H t = some (.ins C dx [])) : SqL K H' l xs :=
  h.imp (fun h => h.imp (fun h => e _ _ (ne_of h ht (by intro z; cases z)) h) fun ⟨o, h⟩ => ⟨o, e _ _ (ne_of h ht (by intro z; cases z)) h⟩) id
theorem same_made {H H' : Hp} {t dt C : Addr} (nt : H t = none) (nd : H dt = none) (e : But t (upd (upd H dt (.own t)) t (.ins C dt [])) H') : Same H H' := fun b o q => by
  have bt : b ≠ t := ne_of_none q nt
  exact e b o bt (by rw [upd_ne bt, upd_ne (ne_of_none q nd)]; exact q)
theorem ok_open_places (T : TX K mg) : FnG w K mg base CX0 5 (a_open_places K) P_open_places [] (spOpenP K) := by
  obtain ⟨fd, F⟩ := T.D_open_places
  obtain ⟨fR, dR, GR, bR, vR, kR'⟩ := ok_tr_init (w := w) (base := base) T
  obtain ⟨fI, dI, GI, bI, vI, kI'⟩ := ok_open_ahead (w := w) (base := base) T
  cases vR
  cases vI
  refine ⟨fd, [], F.ok sc_open_places (fun vs H Q E h => ?_) (fun cdv A outer s H vs Q E hr h => ?_), F.bindsN fun _ _ _ _ _ _ us hl => match us, hl with | [_, _, _], _ => rfl, .nil, F.kp⟩
  · obtain ⟨p, l, k, g, n, o, ks, rfl, _⟩ := h
    rfl
  · obtain ⟨p, l, k, g, n, o, ks, rfl, A, hl, hk, q⟩ := h
    have hr3 : Room 3 _ := hr.mono (by decide)
    refine ⟨_, pss_cons (ps_set (i := 3) sc_open_places.nd rfl (Or.inl rfl) (pe_make T.mk_Traces GR hr (by rfl) T.g_Traces bR .nil pass0 (pa_cons (pv 0) (pa_cons (pv 1) pa_nil))))
      (pss_one (ps_ret (pe_callTy call_tuple_of (by rfl) T.n_tuple (by decide +kernel) (pa_cons (pe_call GI hr3 (by rfl) T.g_open_ahead kI' bI .nil pass0 (pa_cons (pv 3) (pa_cons (pv 2) pa_nil))) pa_nil)))), ?_⟩
    refine ⟨_, rfl, _, rfl, ?_⟩
    intro t dt nt ndt net
    have s0 : Same H (upd (upd H dt (.own t)) t (.ins (cTr K) dt [])) := same_upd (same_upd (Same.refl H) ndt) nt
    refine ⟨t, dt, p, g, ks, rfl, upd_same, A.same s0, fun H2 b2 tr => ⟨rfl, ?_⟩⟩
    have s2 : Same H H2 := same_made nt ndt b2
    refine ⟨_, rfl, _, rfl, t, p, l, k, n, o, rfl, tr, hl.ext s2, s2 _ _ hk, fun r H3 s3 hr3 => ?_⟩
    exact ⟨r, [], rfl, .inl ⟨SqL.of hr3, fun c nc => q c _ (same_upd (s2.trans s3) ((s2.trans s3).free nc)) upd_same⟩⟩
def spWalk (K : Fg) : Sp := fun vs H Q _ => ∃ (p k : Addr) (g : V) (n o : Str) (ks : KVs), vs = [.ref p, g, .ref k] ∧ ProjAt K H p ks ∧ KeyAt H k n o ∧ ∀ r v H', Same H H' → H' r = some (.tup [.str "settled", v]) → Q (.ref r) H'
theorem ok_walk (T : TX K mg) : FnG w K mg base CX0 5 (a_walk K) P_walk [] (spWalk K) := by
  obtain ⟨fd, F⟩ := T.D_walk
  obtain ⟨fR, dR, GR, bR, vR, kR'⟩ := ok_tr_init (w := w) (base := base) T
  obtain ⟨fS, dS, GS, bS, vS, kS'⟩ := ok_settled (w := w) (base := base) T
  obtain ⟨fI, dI, GI, bI, vI, kI'⟩ := ok_answer (w := w) (base := base) T
  cases vR
  cases vS
  cases vI
  refine ⟨fd, [], F.ok sc_walk (fun vs H Q E h => ?_) (fun cdv A outer s H vs Q E hr h => ?_), F.bindsN fun _ _ _ _ _ _ us hl => match us, hl with | [_, _, _], _ => rfl, .nil, F.kp⟩
  · obtain ⟨p, k, g, n, o, ks, rfl, _⟩ := h
    rfl
  · obtain ⟨p, k, g, n, o, ks, rfl, A, hk, q⟩ := h
    have hr3 : Room 3 _ := hr.mono (by decide)
    have hr1 : Room 1 _ := hr.mono (by decide)
    refine ⟨_, pss_cons (ps_set (i := 3) sc_walk.nd rfl (Or.inl rfl) (pe_make T.mk_Traces GR hr (by rfl) T.g_Traces bR .nil pass0 (pa_cons (pv 0) (pa_cons (pv 1) pa_nil))))
      (pss_cons (ps_if (pt_val (pe_meth (pv 3) T.c_Traces T.m_Traces_is_settled GS hr1 bS .nil pass0 (pa_cons (pv 2) pa_nil))) (pss_one (ps_ret (pe_tup (pa_cons pe_str (pa_cons (pe_meth (pv 3) T.c_Traces T.m_Traces_answer GI hr3 bI .nil pass0 (pa_cons (pv 2) pa_nil)) pa_nil))))) pss_nil)
      (pss_cons ps_never (pss_one ps_never))), ?_⟩
    refine ⟨_, rfl, _, rfl, ?_⟩
    intro t dt nt ndt net
    have s0 : Same H (upd (upd H dt (.own t)) t (.ins (cTr K) dt [])) := same_upd (same_upd (Same.refl H) ndt) nt
    refine ⟨t, dt, p, g, ks, rfl, upd_same, A.same s0, fun H2 b2 tr => ⟨rfl, ?_⟩⟩
    have s2 : Same H H2 := same_made nt ndt b2
    obtain ⟨dx, d, t1, t2⟩ := id tr
    refine ⟨_, rfl, t, dx, _, rfl, t1, rfl, _, rfl, t, p, k, n, o, rfl, tr, s2 _ _ hk, true, rfl, iteT2 rfl ?_⟩
    refine ⟨_, rfl, t, dx, _, rfl, t1, rfl, _, rfl, t, p, k, n, o, ks, rfl, tr, s2 _ _ hk, A.same s2, fun v H3 s3 => ?_⟩
    refine ⟨by show 2 ≤ sizeLine; decide, fun c nc => ?_⟩
    exact q c v _ (same_upd (s2.trans s3) ((s2.trans s3).free nc)) upd_same
end
end K98
/-! K98Ses -/
set_option Elab.async false
set_option linter.all false
set_option maxRecDepth 100000
set_option maxHeartbeats 4000000
/-! asking; the session's small defs -/
namespace K98
open PySem PySem.Spec PyProof.Rows L2
section
variable {w : World} {K : Fg} {mg : Str → Option Value} {base : Heap}
def EngAt (K : Fg) (H : Hp) (e : Addr) : Prop := ∃ de wv rv tk rn, H e = some (.ins (cEng K) de (engF wv rv tk rn)) ∧ H tk = some (.lst [])
theorem EngAt.same {H H' : Hp} {e : Addr} (a : EngAt K H e) (s : Same H H') : EngAt K H' e := let ⟨de, wv, rv, tk, rn, h1, h2⟩ := a; ⟨de, wv, rv, tk, rn, s _ _ h1, s _ _ h2⟩
def spPursue (K : Fg) : Sp := fun vs H Q _ => ∃ (e p l k : Addr) (n o : Str) (ks : KVs), vs = [.ref e, .ref p, .ref l] ∧ EngAt K H e ∧ ProjAt K H p ks ∧ SqL K H l [.ref k] ∧ KeyAt H k n o ∧ ∀ v H', Same H H' → Q v H'
theorem ok_pursue (T : TX K mg) : FnG w K mg base CX0 6 (a_Engine_pursue K) P_Engine_pursue [] (spPursue K) := by
  obtain ⟨fd, F⟩ := T.D_Engine_pursue
  obtain ⟨fR, dR, GR, bR, vR, kR'⟩ := ok_open_places (w := w) (base := base) T
  cases vR
  refine ⟨fd, [], F.ok sc_Engine_pursue (fun vs H Q E h => ?_) (fun cdv A outer s H vs Q E hr h => ?_), F.bindsN fun _ _ _ _ _ _ us hl => match us, hl with | [_, _, _], _ => rfl, .nil, F.kp⟩
  · obtain ⟨e, p, l, k, n, o, ks, rfl, _⟩ := h
    rfl
  · obtain ⟨e, p, l, k, n, o, ks, rfl, ⟨de, wv, rv, tk, rn, e1, e2⟩, A, hl, hk, q⟩ := h
    refine ⟨_, PSs.nox (pss_cons (ps_set (i := 3) sc_Engine_pursue.nd rfl (Or.inl rfl) (pe_callB call_len_seq (by rfl) T.n_len boot_len (pa_cons (pe_fld (pv 0) rfl) pa_nil)))
      (pss_cons (ps_set (i := 4) sc_Engine_pursue.nd rfl (Or.inl rfl) (pe_call GR hr (by rfl) T.g_open_places kR' bR .nil pass0 (pa_cons (pv 1) (pa_cons (pe_fld (pv 0) rfl) (pa_cons (pv 2) pa_nil)))))
      (pss_cons (ps_while PassesOwn.never (pt_cmpR op_gt (pe_callB call_len_seq (by rfl) T.n_len boot_len (pa_cons (pv 4) pa_nil)) pe_int (nomark _)) (pss_cons ps_never (pss_one ps_never)))
      (pss_one (ps_ret (pe_callTy call_tuple_of (by rfl) T.n_tuple (by decide +kernel) (pa_cons (pe_slice sl_list (pe_fld (pv 0) rfl) (po_some (pv 3)) po_none) pa_nil))))))), ?_⟩
    refine ⟨_, rfl, e, cEng K, de, _, _, rfl, e1, T.c_Engine, T.at_Engine_taken, rfl, tk, _, rfl, .inl (SqL.of e2), ?_⟩
    refine ⟨_, rfl, _, rfl, e, cEng K, de, _, _, rfl, e1, T.c_Engine, T.at_Engine_seen, rfl, _, rfl, p, l, k, rv, n, o, ks, rfl, A, hl, hk, fun r H2 s2 hr2 => ?_⟩
    refine ⟨fun m σ H' => σ = [some (.ref e), some (.ref p), some (.ref l), some (.int (([] : List V).length : Nat)), some (.ref r)] ∧ H' = H2, ⟨0, rfl, rfl⟩, ?_⟩
    rintro m σ H3 ⟨rfl, rfl⟩
    refine ⟨_, rfl, r, _, rfl, .inr (SqT.of hr2), _, _, rfl, rfl, _, rfl, iteF2 rfl ?_⟩
    refine ⟨_, rfl, e, cEng K, de, _, _, rfl, s2 _ _ e1, T.c_Engine, T.at_Engine_taken, rfl, _, rfl, ?_⟩
    refine ⟨_, rfl, tk, _, rfl, SqL.of (s2 _ _ e2), fun c nc => ?_⟩
    refine ⟨c, _, rfl, .inl ⟨SqL.of upd_same, fun u nu => ?_⟩⟩
    have nuH := s2.free (upd_none nu).2
    exact q _ _ (same_upd (same_upd s2 (s2.free nc)) nuH)
abbrev N_ask : List Str := ["self", "project", "key", "answer"]
theorem sc_ask : FnScope N_ask P_Engine_ask (defScope s_Engine_ask) := ⟨rfl, rfl, rfl, by decide +kernel, rfl, by decide +kernel, by decide +kernel⟩
def spEAsk (K : Fg) : Sp := fun vs H Q _ => ∃ (e p k : Addr) (n o : Str) (ks : KVs), vs = [.ref e, .ref p, .ref k] ∧ EngAt K H e ∧ ProjAt K H p ks ∧ KeyAt H k n o ∧ ∀ v H', Same H H' → Q v H'
theorem ok_eask (T : TX K mg) : FnG w K mg base CX0 7 (a_Engine_ask K) P_Engine_ask [] (spEAsk K) := by
  obtain ⟨fd, F⟩ := T.D_Engine_ask
  obtain ⟨fR, dR, GR, bR, vR, kR'⟩ := ok_pursue (w := w) (base := base) T
  obtain ⟨fW, dW, GW, bW, vW, kW'⟩ := ok_walk (w := w) (base := base) T
  cases vR
  cases vW
  refine ⟨fd, [], F.ok sc_ask (fun vs H Q E h => ?_) (fun cdv A outer s H vs Q E hr h => ?_), F.bindsN fun _ _ _ _ _ _ us hl => match us, hl with | [_, _, _], _ => rfl, .nil, F.kp⟩
  · obtain ⟨e, p, k, n, o, ks, rfl, _⟩ := h
    rfl
  · obtain ⟨e, p, k, n, o, ks, rfl, en, A, hk, q⟩ := h
    have hr5 : Room 5 _ := hr.mono (by decide)
    refine ⟨_, pss_cons (ps_expr (pe_meth (pv 0) T.c_Engine T.m_Engine_pursue GR hr bR .nil pass0 (pa_cons (pv 1) (pa_cons (pe_lst (pa_cons (pv 2) pa_nil)) pa_nil))))
      (pss_one (ps_match2 (i := 3) rfl sc_ask.nd rfl (Or.inl rfl) (pe_call GW hr5 (by rfl) T.g_walk kW' bW .nil pass0 (pa_cons (pv 1) (pa_cons (pe_fld (pv 0) rfl) (pa_cons (pv 2) pa_nil)))) (pss_one (ps_ret (pv 3))))), ?_⟩
    obtain ⟨de, wv, rv, tk, rn, e1, e2⟩ := id en
    refine ⟨_, rfl, e, de, _, rfl, e1, rfl, _, rfl, _, rfl, by show 1 ≤ sizeLine; decide, fun l nl => ?_⟩
    have s1 : Same H (upd H l (.lst [.ref k])) := same_upd (Same.refl H) nl
    refine ⟨e, p, l, k, n, o, ks, rfl, en.same s1, A.same s1, SqL.of upd_same, s1 _ _ hk, fun v H2 s2 => ?_⟩
    have s12 := s1.trans s2
    refine ⟨_, rfl, _, rfl, e, cEng K, de, _, _, rfl, s12 _ _ e1, T.c_Engine, T.at_Engine_seen, rfl, _, rfl, p, k, rv, n, o, ks, rfl, A.same s12, s12 _ _ hk, fun r v2 H3 s3 h3 => ?_⟩
    exact ⟨r, v2, rfl, SqT.of h3, _, rfl, q _ _ (s12.trans s3)⟩
/-! ### the session -/
theorem SesAt.eng' {H : Hp} {S e cur L : Addr} {items : List V} {fl : Nat} (a : SesAt K H S e cur L items fl) : EngAt K H e := let ⟨de, wv, rv, tk, rn, h1, h2, _⟩ := a.eng; ⟨de, wv, rv, tk, rn, h1, h2⟩
theorem SesAt.same {H H' : Hp} {S e cur L : Addr} {items : List V} {fl : Nat} (a : SesAt K H S e cur L items fl) (s : Same H H') : SesAt K H' S e cur L items fl :=
  ⟨let ⟨dx, h⟩ := a.ins; ⟨dx, s _ _ h⟩, s _ _ a.lst, let ⟨de, wv, rv, tk, rn, h1, h2, n⟩ := a.eng; ⟨de, wv, rv, tk, rn, s _ _ h1, s _ _ h2, n⟩⟩
theorem SesAt.big {H : Hp} {S e cur L : Addr} {items : List V} {fl : Nat} (a : SesAt K H S e cur L items fl) : Big H S := let ⟨dx, h⟩ := a.ins; ⟨_, dx, _, h, by show 2 ≤ 4; decide⟩
def spSProj (K : Fg) : Sp := fun vs H Q _ => ∃ (S e cur L : Addr) (items : List V) (fl : Nat), vs = [.ref S] ∧ SesAt K H S e cur L items fl ∧ Q (.ref cur) H
theorem ok_sproj (T : TX K mg) : FnG w K mg base CX0 1 (a_Session_project K) P_Session_project [] (spSProj K) := by
  obtain ⟨fd, F⟩ := T.D_Session_project
  refine ⟨fd, [], F.ok sc_Session_project (fun vs H Q E h => ?_) (fun cdv A outer s H vs Q E hr h => ?_), F.bindsN fun _ _ _ _ _ _ us hl => match us, hl with | [_], _ => rfl, .nil, F.kp⟩
  · obtain ⟨S, e, cur, L, items, fl, rfl, _⟩ := h
    rfl
  · obtain ⟨S, e, cur, L, items, fl, rfl, a, q⟩ := h
    obtain ⟨dx, h1⟩ := a.ins
    refine ⟨_, pss_one (ps_ret (pe_fld (pv 0) rfl)), ?_⟩
    exact ⟨_, rfl, S, cSes K, dx, _, _, rfl, h1, T.c_Session, T.at_Session_current, rfl, q⟩
def spSAsk (K : Fg) : Sp := fun vs H Q _ => ∃ (S e cur L k : Addr) (items : List V) (fl : Nat) (n o : Str) (ks : KVs), vs = [.ref S, .ref k] ∧ SesAt K H S e cur L items fl ∧ ProjAt K H cur ks ∧ KeyAt H k n o ∧ ∀ v H', Same H H' → Q v H'
theorem ok_sask (T : TX K mg) : FnG w K mg base CX0 8 (a_Session_ask K) P_Session_ask [] (spSAsk K) := by
  obtain ⟨fd, F⟩ := T.D_Session_ask
  obtain ⟨fR, dR, GR, bR, vR, kR'⟩ := ok_eask (w := w) (base := base) T
  cases vR
  refine ⟨fd, [], F.ok sc_Session_ask (fun vs H Q E h => ?_) (fun cdv A outer s H vs Q E hr h => ?_), F.bindsN fun _ _ _ _ _ _ us hl => match us, hl with | [_, _], _ => rfl, .nil, F.kp⟩
  · obtain ⟨S, e, cur, L, k, items, fl, n, o, ks, rfl, _⟩ := h
    rfl
  · obtain ⟨S, e, cur, L, k, items, fl, n, o, ks, rfl, a, A, hk, q⟩ := h
    obtain ⟨dx, h1⟩ := a.ins
    obtain ⟨de, wv, rv, tk, rn, e1, e2, _⟩ := a.eng
    refine ⟨_, pss_one (ps_ret (pe_meth (pe_fld (pv 0) rfl) T.c_Engine T.m_Engine_ask GR hr bR .nil pass0 (pa_cons (pe_fld (pv 0) rfl) (pa_cons (pv 1) pa_nil)))), ?_⟩
    refine ⟨_, rfl, S, cSes K, dx, _, _, rfl, h1, T.c_Session, T.at_Session_engine, rfl, e, de, _, rfl, e1, rfl, _, rfl, S, cSes K, dx, _, _, rfl, h1, T.c_Session, T.at_Session_current, rfl, _, rfl, ?_⟩
    exact ⟨e, cur, k, n, o, ks, rfl, a.eng', A, hk, q⟩
/-- items of the past: pairs of a deed and a project -/
def Pairs2 (H : Hp) (items : List V) : Prop := ∀ v ∈ items, ∃ t d b, v = V.ref t ∧ H t = some (.tup [d, .ref b])
def spLog (K : Fg) : Sp := fun vs H Q _ => ∃ (S e cur L : Addr) (items : List V) (fl : Nat), vs = [.ref S] ∧ SesAt K H S e cur L items fl ∧ Pairs2 H items ∧ items.length ≤ 1000 ∧
  ∀ (r : Addr) (ds : List V) (H' : Hp), Same H H' → H r = none → H' r = some (.lst ds) → ds.length = items.length → (∀ (i : Nat) (t : Addr) (d b : V), items[i]? = some (V.ref t) → H t = some (.tup [d, b]) → ds[i]? = some d) → Q (.ref r) H'
theorem ok_log (T : TX K mg) : FnG w K mg base CX0 1 (a_Session_log K) P_Session_log [] (spLog K) := by
  obtain ⟨fd, F⟩ := T.D_Session_log
  refine ⟨fd, [], F.ok sc_Session_log (fun vs H Q E h => ?_) (fun cdv A outer s H vs Q E hr h => ?_), F.bindsN fun _ _ _ _ _ _ us hl => match us, hl with | [_], _ => rfl, .nil, F.kp⟩
  · obtain ⟨S, e, cur, L, items, fl, rfl, _⟩ := h
    rfl
  · obtain ⟨S, e, cur, L, items, fl, rfl, a, hp, hz, q⟩ := h
    obtain ⟨dx, h1⟩ := a.ins
    refine ⟨_, pss_one (ps_ret (pe_lc (own := [("deed", 1), ("before", 2)]) (g := gTup _ 2 _) (tt := tYes) rfl sc_Session_log.nd (pi_list (pe_fld (pv 0) rfl)) (blkOk_by (N := N_Session_log) (sc := defScope s_Session_log) (by decide +kernel))
      (fun _ _ _ _ _ => pg_tup rfl (pgs_cons (pg_name (i := 1) sc_Session_log.nd rfl (Or.inl rfl)) (pgs_cons (pg_name (i := 2) sc_Session_log.nd rfl (Or.inl rfl)) pgs_nil))) (fun _ _ _ _ _ => pts_nil) (fun _ _ _ _ _ => pv 1))), ?_⟩
    refine ⟨_, rfl, S, cSes K, dx, _, _, rfl, h1, T.c_Session, T.at_Session_past, rfl, L, rfl, ⟨_, SqL.of a.lst⟩, fun D nD => ?_⟩
    refine lc_it (walk_list (xs := items)) (fun i H' => Same H H' ∧ ∃ ds : List V, H' D = some (.lst ds) ∧ ds.length = i ∧ ∀ (j : Nat) (t : Addr) (d b : V), j < i → items[j]? = some (V.ref t) → H t = some (.tup [d, b]) → ds[j]? = some d)
      ⟨same_upd (Same.refl H) nD, [], upd_same, rfl, fun j t d b hj => absurd hj (Nat.not_lt_zero _)⟩ (fun i H' _ e => SqL.of (e.1 _ _ a.lst)) ?_ ?_
    · rintro i x H1 H2 hi ⟨s1, ds, hd, hl, hall⟩ ⟨rfl, hx⟩
      obtain ⟨t, d, b, ev, ht⟩ := hp x (List.mem_of_getElem? hx)
      subst ev
      refine ⟨t, _, rfl, SqT.of (s1 _ _ ht), rfl, _, _, rfl, _, _, rfl, rfl, rfl, ?_⟩
      unfold tYes
      dsimp only
      rw [if_pos rfl]
      refine ⟨_, rfl, ds, hd, by rw [sizeLine_eq]; omega, same_upd s1 nD, ds ++ [d], upd_same, by rw [List.length_append, hl]; rfl, fun j t' d' b' hj hj2 ht' => ?_⟩
      by_cases c : j < i
      · rw [List.getElem?_append_left (by omega)]
        exact hall j t' d' b' c hj2 ht'
      · have e : j = i := by omega
        subst e
        rw [hx] at hj2
        have e2 : t = t' := V.ref.inj (Option.some.inj hj2)
        subst e2
        rw [ht] at ht'
        have e3 := HO.tup.inj (Option.some.inj ht')
        have e4 : d = d' := (List.cons.inj e3).1
        subst e4
        rw [List.getElem?_append_right (by omega), hl, Nat.sub_self]
        rfl
    · rintro H1 ⟨s1, ds, hd, hl, hall⟩
      exact q D ds _ s1 nD hd hl fun i t d b hi ht => hall i t d b (List.getElem?_eq_some_iff.mp hi).1 hi ht
end
end K98
/-! K98Edits -/
set_option Elab.async false
set_option linter.all false
set_option maxRecDepth 100000
set_option maxHeartbeats 4000000
/-! change; the session's edits -/
namespace K98
open PySem PySem.Spec PyProof.Rows L2
section
variable {w : World} {K : Fg} {mg : Str → Option Value} {base : Heap}
def spChange (K : Fg) : Sp := fun vs H Q _ => ∃ (S e cur L q : Addr) (dv : V) (items : List V) (fl : Nat) (ks ls : KVs), vs = [.ref S, dv, .ref q] ∧ SesAt K H S e cur L items fl ∧ ProjAt K H cur ks ∧ ProjAt K H q ls ∧ items.length ≤ 1000 ∧
  (ls.length = ks.length → Q .non H) ∧ ∀ t H', Keep S L H H' → H t = none → H' t = some (.tup [dv, .ref cur]) → SesAt K H' S e q L (items ++ [.ref t]) fl → Q .non H'
theorem ok_change (T : TX K mg) : FnG w K mg base CX0 6 (a_Session_change K) P_Session_change [] (spChange K) := by
  obtain ⟨fd, F⟩ := T.D_Session_change
  obtain ⟨fR, dR, GR, bR, vR, kR'⟩ := ok_prj_eq (w := w) (base := base) T
  cases vR
  refine ⟨fd, [], F.ok sc_Session_change (fun vs H Q E h => ?_) (fun cdv A outer s H vs Q E hr h => ?_), F.bindsN fun _ _ _ _ _ _ us hl => match us, hl with | [_, _, _], _ => rfl, .nil, F.kp⟩
  · obtain ⟨S, e, cur, L, q, dv, items, fl, ks, ls, rfl, _⟩ := h
    rfl
  · obtain ⟨S, e, cur, L, q, dv, items, fl, ks, ls, rfl, a, A, B, hz, k1, k2⟩ := h
    obtain ⟨dx, h1⟩ := a.ins
    obtain ⟨da, ga, p1, p2⟩ := A.ins
    obtain ⟨db, gb, q1, q2⟩ := B.ins
    refine ⟨_, pss_one (ps_if (pt_cmpR (op_neIn GR (T.m_Project_eq).1 (T.m_Project_eq).2 T.ne_prj T.mro_prj bR pass0 hr) (pv 2) (pe_fld (pv 0) rfl) (nomark _))
      (pss_cons (ps_expr (pe_bm PySem.F.plainAttrs_list PySem.F.slot_list_append PySem.F.type_list_append mt_append (pe_fld (pv 0) rfl) (pa_cons (pe_tup (pa_cons (pv 1) (pa_cons (pe_fld (pv 0) rfl) pa_nil))) pa_nil)))
      (pss_one (ps_fld (pv 0) (pv 2) rfl))) pss_nil), ?_⟩
    refine ⟨_, rfl, _, rfl, S, cSes K, dx, _, _, rfl, h1, T.c_Session, T.at_Session_current, rfl, ?_⟩
    refine ⟨q, cur, db, da, _, _, rfl, rfl, q1, p1, fun r => TellV ls ks GSrc r, ⟨q, cur, ls, ks, rfl, B, A, fun r t => ⟨rfl, r, rfl, t⟩⟩, fun r tl => ⟨_, rfl, ?_⟩⟩
    cases r with
    | true => exact iteF2 rfl (k1 (tl.1 rfl).1)
    | false =>
      refine iteT2 rfl ?_
      refine ⟨_, rfl, S, cSes K, dx, _, _, rfl, h1, T.c_Session, T.at_Session_past, rfl, .inl ⟨rfl, _, SqL.of a.lst⟩, ?_⟩
      refine ⟨_, rfl, _, rfl, S, cSes K, dx, _, _, rfl, h1, T.c_Session, T.at_Session_current, rfl, by show 2 ≤ sizeLine; decide, fun t nt => ?_⟩
      have s1 : Same H (upd H t (.tup [dv, .ref cur])) := same_upd (Same.refl H) nt
      have tL : L ≠ t := ne_of_none a.lst nt
      have tS : S ≠ t := ne_of_none h1 nt
      have LS : S ≠ L := ne_of h1 a.lst (by intro z; cases z)
      refine ⟨L, items, _, rfl, rfl, s1 _ _ a.lst, by rw [sizeLine_eq]; omega, ?_⟩
      have h1' : (upd (upd H t (.tup [dv, .ref cur])) L (.lst (items ++ [.ref t]))) S = some (.ins (cSes K) dx (sesF e cur L fl)) := by rw [upd_ne LS, upd_ne tS]; exact h1
      refine ⟨_, rfl, _, rfl, S, cSes K, dx, _, rfl, h1', T.c_Session, T.at_Session_current, (by show 4 < 1000; decide), ?_⟩
      have kp : Keep S L H (upd (upd (upd H t (.tup [dv, .ref cur])) L (.lst (items ++ [.ref t]))) S (.ins (cSes K) dx (putF "current" (.ref q) (sesF e cur L fl)))) := fun b o hb1 hb2 g => by
        rw [upd_ne hb1, upd_ne hb2]
        exact s1 b o g
      obtain ⟨de, wv, rv, tk, rn, e1, e2, e3⟩ := a.eng
      refine k2 t _ kp nt ?_ ⟨⟨dx, by rw [upd_same]; rfl⟩, by rw [upd_ne LS.symm, upd_same], de, wv, rv, tk, rn, kp _ _ (ne_of e1 h1 ?_) (ne_of e1 a.lst (by intro z; cases z)) e1, kp _ _ (ne_of e2 h1 (by intro z; cases z)) e3 e2, e3⟩
      · rw [upd_ne tS.symm, upd_ne tL.symm, upd_same]
      · intro z
        have z2 := congrArg List.length (HO.ins.inj z).2.2
        exact absurd z2 (by show ¬ (5 = 4); decide)
/-- what an edit leaves: nothing where the project is as it was, or the past one longer and the project anew -/
def Edited (K : Fg) (S e L cur : Addr) (ks : KVs) (items : List V) (fl : Nat) (H : Hp) (P : KVs → V → Hp → Prop) (Q : VK) : Prop :=
  (∀ H' q d ls, Same H H' → ProjAt K H' q ls → P ls d H' → ls.length = ks.length → Q .non H') ∧
  ∀ q t d ls H', Keep S L H H' → H t = none → H' t = some (.tup [d, .ref cur]) → ProjAt K H' q ls → P ls d H' → SesAt K H' S e q L (items ++ [.ref t]) fl → Q .non H'
/-- the step behind the new project's making -/
theorem Edited.change {S e L cur q : Addr} {ks ls : KVs} {items : List V} {fl : Nat} {H H1 : Hp} {P : KVs → V → Hp → Prop} {Q : VK} {E : XK} {d : V} (ed : Edited K S e L cur ks items fl H P Q) (a : SesAt K H S e cur L items fl) (A : ProjAt K H cur ks) (hz : items.length ≤ 1000)
    (s : Same H H1) (B : ProjAt K H1 q ls) (p : P ls d H1) (pk : ∀ H', Keep S L H1 H' → P ls d H') : spChange K [.ref S, d, .ref q] H1 Q E := by
  refine ⟨S, e, cur, L, q, d, items, fl, ks, ls, rfl, a.same s, A.same s, B, hz, fun hl => ed.1 H1 q d ls s B p hl, fun t H' kp nt ht a' => ?_⟩
  exact ed.2 q t d ls H' ((Keep.of_same s).trans kp) (s.free nt) ht (B.keep kp (a.same s).big (s _ _ a.lst)) (pk H' kp) a'
def spSPut (K : Fg) : Sp := fun vs H Q _ => ∃ (S e cur L s : Addr) (items : List V) (fl : Nat) (ks o : KVs) (z : Str), vs = [.ref S, .str z, .ref s] ∧ SesAt K H S e cur L items fl ∧ ProjAt K H cur ks ∧ items.length ≤ 1000 ∧ kS z ∈ pKeys ∧ SrcAt K H s o ∧
  Edited K S e L cur ks items fl H (fun ls _ _ => ls = putK ks (kS z) (.ref s)) Q
theorem ok_sput (T : TX K mg) : FnG w K mg base CX0 7 (a_Session_put K) P_Session_put [] (spSPut K) := by
  obtain ⟨fd, F⟩ := T.D_Session_put
  obtain ⟨fR, dR, GR, bR, vR, kR'⟩ := ok_change (w := w) (base := base) T
  obtain ⟨fP, dP, GP, bP, vP, kP'⟩ := ok_put (w := w) (base := base) T
  cases vR
  cases vP
  refine ⟨fd, [], F.ok sc_Session_put (fun vs H Q E h => ?_) (fun cdv A outer s H vs Q E hr h => ?_), F.bindsN fun _ _ _ _ _ _ us hl => match us, hl with | [_, _, _], _ => rfl, .nil, F.kp⟩
  · obtain ⟨S, e, cur, L, s, items, fl, ks, o, z, rfl, _⟩ := h
    rfl
  · obtain ⟨S, e, cur, L, s, items, fl, ks, o, z, rfl, a, A, hz, hk, hs, ed⟩ := h
    obtain ⟨dx, h1⟩ := a.ins
    obtain ⟨da, ga, p1, p2⟩ := A.ins
    have hr3 : Room 3 _ := hr.mono (by decide)
    refine ⟨_, pss_one (ps_expr (pe_meth (pv 0) T.c_Session T.m_Session_change GR hr bR .nil pass0 (pa_cons (pe_tup (pa_cons pe_str (pa_cons (pv 1) (pa_cons (pv 2) pa_nil)))) (pa_cons (pe_meth (pe_fld (pv 0) rfl) T.c_Project T.m_Project_put GP hr3 bP .nil pass0 (pa_cons (pv 1) (pa_cons (pv 2) pa_nil))) pa_nil)))), ?_⟩
    refine ⟨_, rfl, S, dx, _, rfl, h1, rfl, _, rfl, _, rfl, by show 3 ≤ sizeLine; decide, fun t nt => ?_⟩
    have s1 : Same H (upd H t (.tup [.str "put", .str z, .ref s])) := same_upd (Same.refl H) nt
    refine ⟨_, rfl, S, cSes K, dx, _, _, rfl, s1 _ _ h1, T.c_Session, T.at_Session_current, rfl, cur, da, _, rfl, s1 _ _ p1, rfl, _, rfl, _, rfl, cur, s, ks, o, z, rfl, A.same s1, hk, hs.same s1, fun q H2 s2 nq B => ?_⟩
    exact ed.change (E := E0) a A hz (s1.trans s2) B rfl fun _ _ => rfl
def spSWithout (K : Fg) : Sp := fun vs H Q _ => ∃ (S e cur L : Addr) (items : List V) (fl : Nat) (ks : KVs) (z : Str), vs = [.ref S, .str z] ∧ SesAt K H S e cur L items fl ∧ ProjAt K H cur ks ∧ items.length ≤ 1000 ∧ (valV ks (kS z)).isSome = true ∧
  Edited K S e L cur ks items fl H (fun ls _ _ => ls = dropK ks (kS z)) Q
theorem ok_swithout (T : TX K mg) : FnG w K mg base CX0 7 (a_Session_without K) P_Session_without [] (spSWithout K) := by
  obtain ⟨fd, F⟩ := T.D_Session_without
  obtain ⟨fR, dR, GR, bR, vR, kR'⟩ := ok_change (w := w) (base := base) T
  obtain ⟨fP, dP, GP, bP, vP, kP'⟩ := ok_drop (w := w) (base := base) T
  cases vR
  cases vP
  refine ⟨fd, [], F.ok sc_Session_without (fun vs H Q E h => ?_) (fun cdv A outer s H vs Q E hr h => ?_), F.bindsN fun _ _ _ _ _ _ us hl => match us, hl with | [_, _], _ => rfl, .nil, F.kp⟩
  · obtain ⟨S, e, cur, L, items, fl, ks, z, rfl, _⟩ := h
    rfl
  · obtain ⟨S, e, cur, L, items, fl, ks, z, rfl, a, A, hz, hk, ed⟩ := h
    obtain ⟨dx, h1⟩ := a.ins
    obtain ⟨da, ga, p1, p2⟩ := A.ins
    have hr3 : Room 3 _ := hr.mono (by decide)
    refine ⟨_, pss_one (ps_expr (pe_meth (pv 0) T.c_Session T.m_Session_change GR hr bR .nil pass0 (pa_cons (pe_tup (pa_cons pe_str (pa_cons (pv 1) pa_nil))) (pa_cons (pe_meth (pe_fld (pv 0) rfl) T.c_Project T.m_Project_without GP hr3 bP .nil pass0 (pa_cons (pv 1) pa_nil)) pa_nil)))), ?_⟩
    refine ⟨_, rfl, S, dx, _, rfl, h1, rfl, _, rfl, by show 2 ≤ sizeLine; decide, fun t nt => ?_⟩
    have s1 : Same H (upd H t (.tup [.str "without", .str z])) := same_upd (Same.refl H) nt
    refine ⟨_, rfl, S, cSes K, dx, _, _, rfl, s1 _ _ h1, T.c_Session, T.at_Session_current, rfl, cur, da, _, rfl, s1 _ _ p1, rfl, _, rfl, cur, ks, z, rfl, A.same s1, hk, fun q H2 s2 nq B => ?_⟩
    exact ed.change (E := E0) a A hz (s1.trans s2) B rfl fun _ _ => rfl
/-- a write: the source anew; what stands in the log -/
def PWrite (K : Fg) (ks : KVs) (n x t : Str) : KVs → V → Hp → Prop := fun ls d H' => (∃ s', ls = putK ks (kS n) (.ref s') ∧ (valV ks (kS n) = none → SrcAt K H' s' [(kS x, .str t)])) ∧ ∃ td, d = .ref td ∧ H' td = some (.tup [.str "write", .str n, .str x, .str t])
def spSWrite (K : Fg) : Sp := fun vs H Q _ => ∃ (S e cur L : Addr) (items : List V) (fl : Nat) (ks : KVs) (n x t : Str), vs = [.ref S, .str n, .str x, .str t] ∧ SesAt K H S e cur L items fl ∧ ProjAt K H cur ks ∧ items.length ≤ 1000 ∧ kS n ∈ pKeys ∧ (kS x = kO ∨ kS x = kQ) ∧
  Edited K S e L cur ks items fl H (PWrite K ks n x t) Q
theorem ok_swrite (T : TX K mg) : FnG w K mg base CX0 7 (a_Session_write K) P_Session_write [] (spSWrite K) := by
  obtain ⟨fd, F⟩ := T.D_Session_write
  obtain ⟨fR, dR, GR, bR, vR, kR'⟩ := ok_change (w := w) (base := base) T
  obtain ⟨fP, dP, GP, bP, vP, kP'⟩ := ok_write (w := w) (base := base) T
  cases vR
  cases vP
  refine ⟨fd, [], F.ok sc_Session_write (fun vs H Q E h => ?_) (fun cdv A outer s H vs Q E hr h => ?_), F.bindsN fun _ _ _ _ _ _ us hl => match us, hl with | [_, _, _, _], _ => rfl, .nil, F.kp⟩
  · obtain ⟨S, e, cur, L, items, fl, ks, n, x, t, rfl, _⟩ := h
    rfl
  · obtain ⟨S, e, cur, L, items, fl, ks, n, x, t, rfl, a, A, hz, hk, hx, ed⟩ := h
    obtain ⟨dx, h1⟩ := a.ins
    obtain ⟨da, ga, p1, p2⟩ := A.ins
    have hr3 : Room 4 _ := hr.mono (by decide)
    refine ⟨_, pss_one (ps_expr (pe_meth (pv 0) T.c_Session T.m_Session_change GR hr bR .nil pass0 (pa_cons (pe_tup (pa_cons pe_str (pa_cons (pv 1) (pa_cons (pv 2) (pa_cons (pv 3) pa_nil))))) (pa_cons (pe_meth (pe_fld (pv 0) rfl) T.c_Project T.m_Project_write GP hr3 bP .nil pass0 (pa_cons (pv 1) (pa_cons (pv 2) (pa_cons (pv 3) pa_nil)))) pa_nil)))), ?_⟩
    refine ⟨_, rfl, S, dx, _, rfl, h1, rfl, _, rfl, _, rfl, _, rfl, by show 4 ≤ sizeLine; decide, fun td nt => ?_⟩
    have s1 : Same H (upd H td (.tup [.str "write", .str n, .str x, .str t])) := same_upd (Same.refl H) nt
    refine ⟨_, rfl, S, cSes K, dx, _, _, rfl, s1 _ _ h1, T.c_Session, T.at_Session_current, rfl, cur, da, _, rfl, s1 _ _ p1, rfl, _, rfl, _, rfl, _, rfl, cur, ks, n, x, t, rfl, A.same s1, hk, hx, fun q s' H2 s2 nq B src => ?_⟩
    have htd : H2 td = some (.tup [.str "write", .str n, .str x, .str t]) := s2 _ _ upd_same
    have a2 := a.same (s1.trans s2)
    obtain ⟨dx2, h2⟩ := a2.ins
    refine ed.change (E := E0) a A hz (s1.trans s2) B ⟨⟨s', rfl, src⟩, td, rfl, htd⟩ fun H' kp => ⟨⟨s', rfl, fun hv => (src hv).keep kp a2.big a2.lst⟩, td, rfl, kp _ _ (ne_of htd h2 (by intro z; cases z)) (ne_of htd a2.lst (by intro z; cases z)) htd⟩
def spSErase (K : Fg) : Sp := fun vs H Q _ => ∃ (S e cur L : Addr) (items : List V) (fl : Nat) (ks : KVs) (n x : Str), vs = [.ref S, .str n, .str x] ∧ SesAt K H S e cur L items fl ∧ ProjAt K H cur ks ∧ items.length ≤ 1000 ∧ kS n ∈ pKeys ∧ (valV ks (kS n)).isSome = true ∧
  Edited K S e L cur ks items fl H (fun ls _ _ => ∃ s', ls = putK ks (kS n) (.ref s')) Q
theorem ok_serase (T : TX K mg) : FnG w K mg base CX0 7 (a_Session_erase K) P_Session_erase [] (spSErase K) := by
  obtain ⟨fd, F⟩ := T.D_Session_erase
  obtain ⟨fR, dR, GR, bR, vR, kR'⟩ := ok_change (w := w) (base := base) T
  obtain ⟨fP, dP, GP, bP, vP, kP'⟩ := ok_erase (w := w) (base := base) T
  cases vR
  cases vP
  refine ⟨fd, [], F.ok sc_Session_erase (fun vs H Q E h => ?_) (fun cdv A outer s H vs Q E hr h => ?_), F.bindsN fun _ _ _ _ _ _ us hl => match us, hl with | [_, _, _], _ => rfl, .nil, F.kp⟩
  · obtain ⟨S, e, cur, L, items, fl, ks, n, x, rfl, _⟩ := h
    rfl
  · obtain ⟨S, e, cur, L, items, fl, ks, n, x, rfl, a, A, hz, hk, hi, ed⟩ := h
    obtain ⟨dx, h1⟩ := a.ins
    obtain ⟨da, ga, p1, p2⟩ := A.ins
    have hr3 : Room 4 _ := hr.mono (by decide)
    refine ⟨_, pss_one (ps_expr (pe_meth (pv 0) T.c_Session T.m_Session_change GR hr bR .nil pass0 (pa_cons (pe_tup (pa_cons pe_str (pa_cons (pv 1) (pa_cons (pv 2) pa_nil)))) (pa_cons (pe_meth (pe_fld (pv 0) rfl) T.c_Project T.m_Project_erase GP hr3 bP .nil pass0 (pa_cons (pv 1) (pa_cons (pv 2) pa_nil))) pa_nil)))), ?_⟩
    refine ⟨_, rfl, S, dx, _, rfl, h1, rfl, _, rfl, _, rfl, by show 3 ≤ sizeLine; decide, fun t nt => ?_⟩
    have s1 : Same H (upd H t (.tup [.str "erase", .str n, .str x])) := same_upd (Same.refl H) nt
    refine ⟨_, rfl, S, cSes K, dx, _, _, rfl, s1 _ _ h1, T.c_Session, T.at_Session_current, rfl, cur, da, _, rfl, s1 _ _ p1, rfl, _, rfl, _, rfl, cur, ks, n, x, rfl, A.same s1, hk, hi, fun q s' H2 s2 nq B => ?_⟩
    exact ed.change (E := E0) a A hz (s1.trans s2) B ⟨s', rfl⟩ fun _ _ => ⟨s', rfl⟩
end
end K98
/-! K98Undo -/
set_option Elab.async false
set_option linter.all false
set_option maxRecDepth 100000
set_option maxHeartbeats 1000000
/-! an attribute as a target; undo, edit -/
namespace K98
open PySem PySem.Spec PyProof.Rows L2
/-- o.f as a target -/
def gFld (K : Fg) (to : TE) (f : Str) : TG := fun v σ H Q => to σ H fun x H1 => ∃ a C dx fs, x = .ref a ∧ H1 a = some (.ins C dx fs) ∧ Cls K C ∧ NoAttr K C f ∧ fs.length < 1000 ∧ Q σ (upd H1 a (.ins C dx (putF f v fs)))
theorem pg_fld {X : Cx} {o : Expr} {f : Str} {pos : Pos} {to : TE} (ho : PE X o to)
    (ha : ∀ v, assign (.Attribute o f pos) X.env v = (do
      let ov ← holding [v] (eval o X.env)
      standAt pos.atName
      holding [v, ov] (setAttr ov f v)
      release [v, ov] []) := by intro _; rfl) : PG X (.Attribute o f pos) (gFld X.K to f) := by
  refine ⟨fun pins s σ H v u Q I r h => ?_⟩
  rw [ha]
  refine wpAny_bind (wpAny_holding (thn (ho.run pins s σ H _ I h) fun ov s1 ⟨x, H1, I1, r1, a, C, dx, fs, ex, ea, c, n, l, q⟩ => ?_))
  subst ex
  obtain rfl : ov = Value.ref a := r1
  refine wpAny_bind (wpAny_standAt (wpAny_bind (wpAny_holding (setattr_ok I1 ea c n l r fun s3 I3 => ?_))))
  exact wpAny_release ⟨σ, _, I3, q⟩
section
variable {w : World} {K : Fg} {mg : Str → Option Value} {base : Heap}
theorem Pairs2.same {H H' : Hp} {items : List V} (p : Pairs2 H items) (e : Same H H') : Pairs2 H' items := fun v hv => let ⟨t, d, b, e1, h⟩ := p v hv; ⟨t, d, b, e1, e _ _ h⟩
def spUndo (K : Fg) : Sp := fun vs H Q _ => ∃ (S e cur L : Addr) (items : List V) (fl : Nat), vs = [.ref S] ∧ SesAt K H S e cur L items fl ∧ Pairs2 H items ∧ fl ≤ items.length ∧ items.length ≤ 1000 ∧ (items.length = fl → Q (.bl false) H) ∧
  ∀ (its : List V) (t : Addr) (d : V) (b : Addr) (H' : Hp), items = its ++ [V.ref t] → H t = some (.tup [d, .ref b]) → fl ≤ its.length → Keep S L H H' → SesAt K H' S e b L its fl → Q (.bl true) H'
theorem ok_undo (T : TX K mg) : FnG w K mg base CX0 1 (a_Session_undo K) P_Session_undo [] (spUndo K) := by
  obtain ⟨fd, F⟩ := T.D_Session_undo
  refine ⟨fd, [], F.ok sc_Session_undo (fun vs H Q E h => ?_) (fun cdv A outer s H vs Q E hr h => ?_), F.bindsN fun _ _ _ _ _ _ us hl => match us, hl with | [_], _ => rfl, .nil, F.kp⟩
  · obtain ⟨S, e, cur, L, items, fl, rfl, _⟩ := h
    rfl
  · obtain ⟨S, e, cur, L, items, fl, rfl, a, hp, hfl, hz, k1, k2⟩ := h
    obtain ⟨dx, h1⟩ := a.ins
    refine ⟨_, pss_cons (ps_if (pt_cmpR op_eq (pe_callB call_len_seq (by rfl) T.n_len boot_len (pa_cons (pe_fld (pv 0) rfl) pa_nil)) (pe_fld (pv 0) rfl) (nomark _)) (pss_one (ps_ret pe_bl)) pss_nil)
      (pss_cons (ps_asg (pe_bm0 PySem.F.plainAttrs_list PySem.F.slot_list_pop PySem.F.type_list_pop mt_pop (pe_fld (pv 0) rfl)) (pg_tup rfl (pgs_cons (pg_name (i := 1) sc_Session_undo.nd rfl (Or.inl rfl)) (pgs_cons (pg_fld (pv 0)) pgs_nil))))
      (pss_one (ps_ret pe_bl))), ?_⟩
    refine ⟨_, rfl, S, cSes K, dx, _, _, rfl, h1, T.c_Session, T.at_Session_past, rfl, L, _, rfl, .inl (SqL.of a.lst), ?_⟩
    refine ⟨_, rfl, S, cSes K, dx, _, _, rfl, h1, T.c_Session, T.at_Session_floor, rfl, rfl, _, rfl, ?_⟩
    by_cases c : items.length = fl
    · refine iteT2 (decide_eq_true (by rw [c])) ?_
      exact k1 c
    · refine iteF2 (decide_eq_false fun y => c (by have y2 := V.int.inj y; omega)) ?_
      have ne : items ≠ [] := fun y => c (by rw [y] at hfl ⊢; exact (Nat.le_zero.mp hfl).symm)
      obtain ⟨its, v, ei⟩ : ∃ its v, items = its ++ [v] := ⟨items.dropLast, items.getLast ne, (List.dropLast_concat_getLast ne).symm⟩
      subst ei
      obtain ⟨t, d, b, ev, ht⟩ := hp v (List.mem_append_right _ List.mem_cons_self)
      subst ev
      refine ⟨_, rfl, S, cSes K, dx, _, _, rfl, h1, T.c_Session, T.at_Session_past, rfl, .inl ⟨rfl, _, SqL.of a.lst⟩, L, _, .ref t, rfl, rfl, a.lst, by simp, ?_⟩
      have dl : (its ++ [V.ref t]).dropLast = its := by simp
      rw [dl]
      have LS : S ≠ L := ne_of h1 a.lst (by intro z; cases z)
      have tL : t ≠ L := ne_of ht a.lst (by intro z; cases z)
      have ht2 : (upd H L (.lst its)) t = some (.tup [d, .ref b]) := by rw [upd_ne tL]; exact ht
      refine ⟨t, _, rfl, SqT.of ht2, rfl, _, _, rfl, _, _, rfl, ?_⟩
      refine ⟨_, rfl, S, cSes K, dx, _, rfl, by rw [upd_ne LS]; exact h1, T.c_Session, T.at_Session_current, (by show 4 < 1000; decide), rfl, ?_⟩
      have kp : Keep S L H (upd (upd H L (.lst its)) S (.ins (cSes K) dx (putF "current" (.ref b) (sesF e cur L fl)))) := fun b' o hb1 hb2 g => by
        rw [upd_ne hb1, upd_ne hb2]
        exact g
      obtain ⟨de, wv, rv, tk, rn, e1, e2, e3⟩ := a.eng
      refine k2 its t d b _ rfl ht ?_ kp ⟨⟨dx, by rw [upd_same]; rfl⟩, by rw [upd_ne LS.symm, upd_same], de, wv, rv, tk, rn, kp _ _ (ne_of e1 h1 ?_) (ne_of e1 a.lst (by intro z; cases z)) e1, kp _ _ (ne_of e2 h1 (by intro z; cases z)) e3 e2, e3⟩
      · rw [List.length_append] at hfl c
        have y : ([V.ref t] : List V).length = 1 := rfl
        omega
      · intro z
        have z2 := congrArg List.length (HO.ins.inj z).2.2
        exact absurd z2 (by show ¬ (5 = 4); decide)
/-- edit: what the called def asks -/
def spSEdit (K : Fg) : Sp := fun vs H Q _ => ∃ (S dt : Addr), vs = [.ref S, .ref dt] ∧
  ((∃ z s, SqT K H dt [.str "put", .str z, .ref s] ∧ spSPut K [.ref S, .str z, .ref s] H (fun _ H' => Q .non H') E0) ∨
  (∃ z, SqT K H dt [.str "without", .str z] ∧ spSWithout K [.ref S, .str z] H (fun _ H' => Q .non H') E0) ∨
  (∃ n x t, SqT K H dt [.str "write", .str n, .str x, .str t] ∧ spSWrite K [.ref S, .str n, .str x, .str t] H (fun _ H' => Q .non H') E0) ∨
  (∃ n x, SqT K H dt [.str "erase", .str n, .str x] ∧ spSErase K [.ref S, .str n, .str x] H (fun _ H' => Q .non H') E0))
theorem ses_of {H : Hp} {S e cur L : Addr} {items : List V} {fl : Nat} (a : SesAt K H S e cur L items fl) : ∃ dx fs, H S = some (.ins (cSes K) dx fs) ∧ fs.lookup ("put" : Str) = none ∧ fs.lookup ("without" : Str) = none ∧ fs.lookup ("write" : Str) = none ∧ fs.lookup ("erase" : Str) = none := let ⟨dx, h⟩ := a.ins; ⟨dx, _, h, rfl, rfl, rfl, rfl⟩
theorem ok_sedit (T : TX K mg) : FnG w K mg base CX0 8 (a_Session_edit K) P_Session_edit [] (spSEdit K) := by
  obtain ⟨fd, F⟩ := T.D_Session_edit
  obtain ⟨f1, d1, G1, b1, v1, k1⟩ := ok_sput (w := w) (base := base) T
  obtain ⟨f2, d2, G2, b2, v2, k2⟩ := ok_swithout (w := w) (base := base) T
  obtain ⟨f3, d3, G3, b3, v3, k3⟩ := ok_swrite (w := w) (base := base) T
  obtain ⟨f4, d4, G4, b4, v4, k4⟩ := ok_serase (w := w) (base := base) T
  cases v1
  cases v2
  cases v3
  cases v4
  refine ⟨fd, [], F.ok sc_Session_edit (fun vs H Q E h => ?_) (fun cdv A outer s H vs Q E hr h => ?_), F.bindsN fun _ _ _ _ _ _ us hl => match us, hl with | [_, _], _ => rfl, .nil, F.kp⟩
  · obtain ⟨S, dt, rfl, _⟩ := h
    rfl
  · obtain ⟨S, dt, rfl, h⟩ := h
    refine ⟨_, pss_one (ps_if (pt_cmpR op_eq (pe_ix ix_tup (pv 1) pe_int (fun _ _ => rfl)) pe_str (nomark _)) (pss_one (ps_expr (pe_meth (pv 0) T.c_Session T.m_Session_put G1 hr b1 .nil pass0 (pa_cons (pe_ix ix_tup (pv 1) pe_int (fun _ _ => rfl)) (pa_cons (pe_ix ix_tup (pv 1) pe_int (fun _ _ => rfl)) pa_nil)))))
      (pss_one (ps_if (pt_cmpR op_eq (pe_ix ix_tup (pv 1) pe_int (fun _ _ => rfl)) pe_str (nomark _)) (pss_one (ps_expr (pe_meth (pv 0) T.c_Session T.m_Session_without G2 hr b2 .nil pass0 (pa_cons (pe_ix ix_tup (pv 1) pe_int (fun _ _ => rfl)) pa_nil))))
      (pss_one (ps_if (pt_cmpR op_eq (pe_ix ix_tup (pv 1) pe_int (fun _ _ => rfl)) pe_str (nomark _)) (pss_one (ps_expr (pe_meth (pv 0) T.c_Session T.m_Session_write G3 hr b3 .nil pass0 (pa_cons (pe_ix ix_tup (pv 1) pe_int (fun _ _ => rfl)) (pa_cons (pe_ix ix_tup (pv 1) pe_int (fun _ _ => rfl)) (pa_cons (pe_ix ix_tup (pv 1) pe_int (fun _ _ => rfl)) pa_nil))))))
        (pss_one (ps_expr (pe_meth (pv 0) T.c_Session T.m_Session_erase G4 hr b4 .nil pass0 (pa_cons (pe_ix ix_tup (pv 1) pe_int (fun _ _ => rfl)) (pa_cons (pe_ix ix_tup (pv 1) pe_int (fun _ _ => rfl)) pa_nil)))))))))), ?_⟩
    rcases h with ⟨z, s0, hd, h⟩ | ⟨z, hd, h⟩ | ⟨n, x, t, hd, h⟩ | ⟨n, x, hd, h⟩
    · obtain ⟨S', e, cur, L, s', items, fl, ks, o, z', ev, a, hh⟩ := id h
      cases ev
      obtain ⟨dx, fs, g1, g2, g3, g4, g5⟩ := ses_of a
      refine ⟨_, rfl, dt, _, 0, _, rfl, rfl, hd, rfl, rfl, _, rfl, iteT2 (by decide +kernel) ?_⟩
      refine ⟨_, rfl, S, dx, fs, rfl, g1, g2, _, rfl, dt, _, 1, _, rfl, rfl, hd, rfl, _, rfl, dt, _, 2, _, rfl, rfl, hd, rfl, ?_⟩
      exact h
    · obtain ⟨S', e, cur, L, items, fl, ks, z', ev, a, hh⟩ := id h
      cases ev
      obtain ⟨dx, fs, g1, g2, g3, g4, g5⟩ := ses_of a
      refine ⟨_, rfl, dt, _, 0, _, rfl, rfl, hd, rfl, rfl, _, rfl, iteF2 (by decide +kernel) ?_⟩
      refine ⟨_, rfl, dt, _, 0, _, rfl, rfl, hd, rfl, rfl, _, rfl, iteT2 (by decide +kernel) ?_⟩
      exact ⟨_, rfl, S, dx, fs, rfl, g1, g3, _, rfl, dt, _, 1, _, rfl, rfl, hd, rfl, h⟩
    · obtain ⟨S', e, cur, L, items, fl, ks, n', x', t', ev, a, hh⟩ := id h
      cases ev
      obtain ⟨dx, fs, g1, g2, g3, g4, g5⟩ := ses_of a
      refine ⟨_, rfl, dt, _, 0, _, rfl, rfl, hd, rfl, rfl, _, rfl, iteF2 (by decide +kernel) ?_⟩
      refine ⟨_, rfl, dt, _, 0, _, rfl, rfl, hd, rfl, rfl, _, rfl, iteF2 (by decide +kernel) ?_⟩
      refine ⟨_, rfl, dt, _, 0, _, rfl, rfl, hd, rfl, rfl, _, rfl, iteT2 (by decide +kernel) ?_⟩
      exact ⟨_, rfl, S, dx, fs, rfl, g1, g4, _, rfl, dt, _, 1, _, rfl, rfl, hd, rfl, _, rfl, dt, _, 2, _, rfl, rfl, hd, rfl, _, rfl, dt, _, 3, _, rfl, rfl, hd, rfl, h⟩
    · obtain ⟨S', e, cur, L, items, fl, ks, n', x', ev, a, hh⟩ := id h
      cases ev
      obtain ⟨dx, fs, g1, g2, g3, g4, g5⟩ := ses_of a
      refine ⟨_, rfl, dt, _, 0, _, rfl, rfl, hd, rfl, rfl, _, rfl, iteF2 (by decide +kernel) ?_⟩
      refine ⟨_, rfl, dt, _, 0, _, rfl, rfl, hd, rfl, rfl, _, rfl, iteF2 (by decide +kernel) ?_⟩
      refine ⟨_, rfl, dt, _, 0, _, rfl, rfl, hd, rfl, rfl, _, rfl, iteF2 (by decide +kernel) ?_⟩
      exact ⟨_, rfl, S, dx, fs, rfl, g1, g5, _, rfl, dt, _, 1, _, rfl, rfl, hd, rfl, _, rfl, dt, _, 2, _, rfl, rfl, hd, rfl, h⟩
end
end K98
/-! K98Deed -/
set_option Elab.async false
set_option linter.all false
set_option maxRecDepth 100000
set_option maxHeartbeats 1000000
/-! do_deed, do_deeds, attempt: each by what the called defs ask -/
namespace K98
open PySem PySem.Spec PyProof.Rows L2
section
variable {X : Cx} {CX : CXT} {k : Nat} {f C : Addr} {fd : FuncData} {ps : List Str} {sp : Sp} {dvs : List V} {ds : List Value} {E : St → XK} {x m : Str} {p pos apos : Pos} {e o : Expr} {es : List Expr} {ta : TE} {t : TA}
/-- o.m(e, ..), what is raised is wished for at the caller's slots -/
def tMethAt (C : Addr) (m : Str) (sp : Sp) (dvs : List V) (E : St → XK) (ta : TE) (t : TA) : TE := fun σ H Q => ta σ H fun x H1 => ∃ a dx fs, x = .ref a ∧ H1 a = some (.ins C dx fs) ∧ fs.lookup m = none ∧ t σ H1 fun vs H2 => sp (x :: (vs ++ dvs)) H2 Q (E σ)
theorem run_fnAt {pins : List (Addr × Obj)} {σ : St} {H : Hp} {s : Shared} {Q : VK} {us : List Value} {vs : List V} (F : FnOk X.prog X.w X.K X.mg X.base CX k f fd ps sp) (hr : Room k X.A) (hb : Binds X.K fd ps ds) (hd : Vals dvs ds) (hx : PassesAt CX X σ (E σ))
    (I : Inv X pins σ H s) (r : Vals vs us) (h : sp (vs ++ dvs) H Q (E σ)) : wpAny (model X.prog X.w) X.A (call (.ref f) us) (EP X pins σ Q) X.xe s := by
  have r2 : Vals (vs ++ dvs) (us ++ ds) := r.append hd
  have hl : (us ++ ds).length = ps.length := by rw [← r2.length]; exact F.len _ _ _ _ h
  refine wpAny_call (codeAny_mono (F.run X.A X.stack s H ⟨us, []⟩ (us ++ ds) (vs ++ dvs) Q (E σ) hr I.env0 (hb s us I.kIn hl) r2 h) fun r s' hq => ?_)
  cases r with
  | error e => exact hx pins H s e s' I hq
  | ok fl =>
    cases fl with
    | ret u => exact I.after hq
    | next => exact False.elim hq
    | brk => exact False.elim hq
    | cont => exact False.elim hq
theorem pe_methAt {pl : Sem Bool} (he : PE X o ta) (c : Cls X.K C) (hm : Meth X.K C m f) (F : FnOk X.prog X.w X.K X.mg X.base CX k f fd ps sp) (hr : Room k X.A) (hb : Binds X.K fd ps ds) (hd : Vals dvs ds) (hx : ∀ σ, PassesAt CX X σ (E σ)) (ha : PA X (e :: es) t)
    (hst : starEach (e :: es) X.env = (false, eval e X.env) :: starEach es X.env := by rfl) (hpl : (backTo pos (starEach es X.env)).any (·.1) = false := by rfl)
    (ht : eval (.Call (.Attribute o m apos) (e :: es) [] pos) X.env = (do
      let ov ← eval o X.env
      standAt apos.atName
      let (f, first) ← holding [ov] (getMethod ov m pl)
      callWith pos f first (backTo pos (starEach (e :: es) X.env)) (backToKw pos (keywordEach [] X.env))) := by rfl) :
    PE X (.Call (.Attribute o m apos) (e :: es) [] pos) (tMethAt C m sp dvs E ta t) := by
  refine ⟨fun pins s σ H Q I h => ?_⟩
  refine PySem.W.methodCall_KW (pl := pl) (thn (he.run pins s σ H _ I h) fun u s1 ⟨x, H1, I1, rx, a, dx, fs, ex, ea, l, q⟩ => ?_) ht
  subst ex
  obtain rfl : u = Value.ref a := rx
  refine getmeth_ok I1 ea c hm l ?_
  refine PySem.W.callWith_K (first := [.ref a]) (h₀ := X.base) I.ok.mod.kin hm.kp (thn (ha.run pos pins s1 σ H1 _ I1 q) fun us s2 ⟨vs, H2, I2, r, q2⟩ => ⟨I2.kIn, ?_⟩) hst hpl
  exact run_fnAt (us := .ref a :: us) (vs := .ref a :: vs) F hr hb hd (hx σ) I2 (.cons rfl r) q2
end
theorem passK {X : Cx} {E : XK} (tk : TakesK X (fun cls d _ H => E cls d H)) : Passes (CXk X.prog X.w) X E := fun pins σ H s e s' I c => passAtK tk σ pins H s e s' I c
section
variable {w : World} {K : Fg} {mg : Str → Option Value} {base : Heap}
/-- a deed of no sort -/
def BadDeed (K : Fg) (H : Hp) (xs : List V) : Prop := xs = [] ∨ (∃ x r, xs = x :: r ∧ NotT K H x "str") ∨ ∃ z r, xs = .str z :: r ∧ EditR K H z r false ∧ (z = "ask" → ∀ x, r = [x] → KeyV K H x false) ∧ ¬ (z = "undo" ∧ r = []) ∧
  (z = "attempt" → ∀ x, r = [x] → ∃ u, TyX K H x u ∧ PySem.W.kitAny K u [.type "list", .type "tuple"] = some false)
/-- a raised Failed(path) over H: its dict at d, the path at pt -/
def Raised (K : Fg) (H : Hp) (p : List V) (E : XK) : Prop := ∀ d pt H', Same H H' → H d = none → H' d = some (.xd [("path", .ref pt)]) → H' pt = some (.tup p) → E (.ref (cFail K)) (some d) H'
def spDo (K : Fg) (spA : Sp) : Sp := fun vs H Q E => ∃ (S t : Addr) (xs : List V), vs = [.ref S, .ref t] ∧ H t = some (.tup xs) ∧ (∃ dx fs, H S = some (.ins (cSes K) dx fs) ∧ fs.map (·.1) = (["engine", "current", "past", "floor"] : List Str)) ∧
  ((BadDeed K H xs ∧ Raised K H [] E) ∨
  (∃ z r, xs = .str z :: r ∧ EditR K H z r true ∧ ∀ H1, Same H H1 → spSEdit K [.ref S, .ref t] H1 Q E0) ∨
  (∃ k, xs = [.str "ask", .ref k] ∧ KeyV K H (.ref k) true ∧ ∀ H1, Same H H1 → spSAsk K [.ref S, .ref k] H1 Q E0) ∨
  (xs = [.str "undo"] ∧ ∀ H1, Same H H1 → spUndo K [.ref S] H1 Q E0) ∨
  (∃ A u, xs = [.str "attempt", .ref A] ∧ TyX K H (.ref A) u ∧ PySem.W.kitAny K u [.type "list", .type "tuple"] = some true ∧ ∀ H1, Same H H1 → spA [.ref S, .ref A, .bl true] H1 Q E))
/-- d[0] == s and len(d) == m and c -/
theorem and3_no {a : Addr} {z s : Str} {xs : List V} {m : Nat} {σ : St} {H : Hp} {C : TT} {Q : Bool → Hp → Prop} (h0 : σ[1]? = some (some (.ref a))) (hs : SqT K H a (.str z :: xs)) (hn : ¬ (z = s ∧ xs.length = m)) (q : Q false H) :
    tTest (tOp rEq (tOp (rIxT K) (tVar 1) (tC (.int 0))) (tC (.str s))) σ H (fun c H1 => if c = true then tTest (tOp rEq (tCB (fun xs H_1 Q => ∃ p ys, xs = [V.ref p] ∧ (SqL K H_1 p ys ∨ SqT K H_1 p ys) ∧ Q (V.int ↑ys.length) H_1) (tCons (tVar 1) tNil)) (tC (.int ((m + 1 : Nat) : Int)))) σ H1 (fun c2 H2 => if c2 = true then C σ H2 Q else Q false H2) else Q false H1) := by
  refine ⟨_, h0, a, _, 0, .str z, rfl, rfl, hs, at0, rfl, _, rfl, ?_⟩
  by_cases c : z = s
  · refine iteT2 (decide_eq_true (by rw [c])) ?_
    refine ⟨_, h0, a, _, rfl, .inr hs, rfl, _, rfl, iteF2 (decide_eq_false fun y => hn ⟨c, ?_⟩) q⟩
    have y2 := V.int.inj y
    have y3 : ((xs.length + 1 : Nat) : Int) = ((m + 1 : Nat) : Int) := y2
    omega
  · exact iteF2 (decide_eq_false fun y => c (V.str.inj y)) q
theorem and3_yes {a : Addr} {s : Str} {xs : List V} {m : Nat} {σ : St} {H : Hp} {C : TT} {Q : Bool → Hp → Prop} (h0 : σ[1]? = some (some (.ref a))) (hs : SqT K H a (.str s :: xs)) (hn : xs.length = m) (q : C σ H Q) :
    tTest (tOp rEq (tOp (rIxT K) (tVar 1) (tC (.int 0))) (tC (.str s))) σ H (fun c H1 => if c = true then tTest (tOp rEq (tCB (fun xs H_1 Q => ∃ p ys, xs = [V.ref p] ∧ (SqL K H_1 p ys ∨ SqT K H_1 p ys) ∧ Q (V.int ↑ys.length) H_1) (tCons (tVar 1) tNil)) (tC (.int ((m + 1 : Nat) : Int)))) σ H1 (fun c2 H2 => if c2 = true then C σ H2 Q else Q false H2) else Q false H1) := by
  refine ⟨_, h0, a, _, 0, .str s, rfl, rfl, hs, at0, rfl, _, rfl, iteT2 (decide_eq_true rfl) ?_⟩
  refine ⟨_, h0, a, _, rfl, .inr hs, rfl, _, rfl, iteT2 (decide_eq_true ?_) q⟩
  show V.int (((xs.length + 1 : Nat)) : Int) = _
  rw [hn]
theorem undo_test {a : Addr} {z : Str} {xs : List V} {σ : St} {H : Hp} {Q : Bool → Hp → Prop} (b : Bool) (h0 : σ[1]? = some (some (.ref a))) (hs : SqT K H a (.str z :: xs)) (hb : (decide (z = "undo") && xs.isEmpty) = b) (q : ∀ H1, Same H H1 → Q b H1) :
    tTest (tOp (rEqHead K) (tVar 1) (tTup (tCons (tC (.str "undo")) tNil))) σ H Q := by
  refine ⟨_, h0, by decide, fun p np => ⟨a, p, z, xs, "undo", rfl, rfl, hs.ext (same_upd (Same.refl H) np), SqT.of upd_same, _, rfl, ?_⟩⟩
  rw [hb]
  exact q _ (same_upd (Same.refl H) np)
theorem map4 {fs : List (Str × V)} (h : fs.map (·.1) = (["engine", "current", "past", "floor"] : List Str)) : ∃ a b c d, fs = [(("engine" : Str), a), (("current" : Str), b), (("past" : Str), c), (("floor" : Str), d)] := by
  match fs, h with
  | [(x1, a), (x2, b), (x3, c), (x4, d)], h =>
    have h1 : x1 :: x2 :: x3 :: x4 :: [] = (["engine", "current", "past", "floor"] : List Str) := h
    injection h1 with e1 h1
    injection h1 with e2 h1
    injection h1 with e3 h1
    injection h1 with e4 h1
    subst e1; subst e2; subst e3; subst e4
    exact ⟨a, b, c, d, rfl⟩
theorem ok_do (T : TX K mg) {k : Nat} {spA : Sp} (hk : 8 ≤ k) (GA : FnG w K mg base (CXk R.prog w) k (a_Session_attempt K) P_Session_attempt [.bl true] spA) : FnG w K mg base (CXk R.prog w) (k + 1) (a_Session_do_deed K) P_Session_do_deed [] (spDo K spA) := by
  obtain ⟨fd, F⟩ := T.D_Session_do_deed
  obtain ⟨fA, dA, GA, bA, vA, kA⟩ := GA
  obtain ⟨fE, dE, GE, bE, vE, kE⟩ := ok_is_edit (w := w) (base := base) T
  obtain ⟨fK, dK, GK, bK, vK, kK⟩ := ok_is_key (w := w) (base := base) T
  obtain ⟨fS, dS, GS, bS, vS, kS'⟩ := ok_sedit (w := w) (base := base) T
  obtain ⟨fQ, dQ, GQ, bQ, vQ, kQ'⟩ := ok_sask (w := w) (base := base) T
  obtain ⟨fU, dU, GU, bU, vU, kU⟩ := ok_undo (w := w) (base := base) T
  cases vE
  cases vK
  cases vS
  cases vQ
  cases vU
  refine ⟨fd, [], F.ok sc_Session_do_deed (fun vs H Q E h => ?_) (fun cdv A outer s H vs Q E hr h => ?_), F.bindsN fun _ _ _ _ _ _ us hl => match us, hl with | [_, _], _ => rfl, .nil, F.kp⟩
  · obtain ⟨S, t, xs, rfl, _⟩ := h
    rfl
  · obtain ⟨S, t, xs, rfl, ht, hS, h⟩ := h
    have hr8 : Room 8 _ := hr.mono (by omega)
    have hr2 : Room 2 _ := hr.mono (by omega)
    have hr1 : Room 1 _ := hr.mono (by omega)
    have hu := hu_of hr
    have tk : TakesK (cxOf (CXk R.prog w) R.prog w K mg base N_Session_do_deed "Session.do_deed" (defScope s_Session_do_deed) (a_Session_do_deed K) cdv A outer s H E) (fun cls d _ H => E cls d H) := takesK_of rfl rfl rfl rfl
    refine ⟨_, (pss_cons (ps_if (PW.pt (pw_or (pt_not (pt_val (pe_callB call_isi (by rfl) T.n_isinstance (by decide +kernel) (pa_cons (pv 1) (pa_cons (pe_bltn (by rfl) T.n_tuple (by decide +kernel) (show RelV (.ty "tuple") (.type "tuple") from rfl)) pa_nil))))) (pw_or (pt_cmpR op_eq (pe_callB call_len_seq (by rfl) T.n_len boot_len (pa_cons (pv 1) pa_nil)) pe_int (nomark _)) (pw_or1 (pt_not (pt_val (pe_callB call_isi (by rfl) T.n_isinstance (by decide +kernel) (pa_cons (pe_ix ix_tup (pv 1) pe_int (fun _ _ => rfl)) (pa_cons (pe_bltn (by rfl) T.n_str (by decide +kernel) (show RelV (.ty "str") (.type "str") from rfl)) pa_nil))))))))) (pss_one (ps_raiseK rfl tk (pmk_fail T.fail T.g_Failed (L2H.roomH_of hr2) (pa_cons (pe_tup pa_nil) pa_nil)).pmk)) pss_nil) (pss_cons (ps_if (pt_val (pe_call GE hr2 (by rfl) T.g_is_edit kE bE .nil pass0 (pa_cons (pv 1) pa_nil))) (pss_one (ps_ret (pe_meth (pv 0) T.c_Session T.m_Session_edit GS hr8 bS .nil pass0 (pa_cons (pv 1) pa_nil)))) pss_nil) (pss_cons (ps_if (PW.pt (pw_and (pt_cmpR op_eq (pe_ix ix_tup (pv 1) pe_int (fun _ _ => rfl)) pe_str (nomark _)) (pw_and (pt_cmpR op_eq (pe_callB call_len_seq (by rfl) T.n_len boot_len (pa_cons (pv 1) pa_nil)) pe_int (nomark _)) (pw_and1 (pt_val (pe_call GK hr2 (by rfl) T.g_is_key kK bK .nil pass0 (pa_cons (pe_ix ix_tup (pv 1) pe_int (fun _ _ => rfl)) pa_nil))))))) (pss_one (ps_ret (pe_meth (pv 0) T.c_Session T.m_Session_ask GQ hr8 bQ .nil pass0 (pa_cons (pe_ix ix_tup (pv 1) pe_int (fun _ _ => rfl)) pa_nil)))) pss_nil) (pss_cons (ps_if (pt_cmpR (op_eqHead hr1.units0) (pv 1) (pe_tup (pa_cons pe_str pa_nil)) (nomark _)) (pss_one (ps_ret (pe_meth0 (pv 0) T.c_Session T.m_Session_undo GU hr1 bU .nil pass0))) pss_nil) (pss_cons (ps_if (PW.pt (pw_and (pt_cmpR op_eq (pe_ix ix_tup (pv 1) pe_int (fun _ _ => rfl)) pe_str (nomark _)) (pw_and (pt_cmpR op_eq (pe_callB call_len_seq (by rfl) T.n_len boot_len (pa_cons (pv 1) pa_nil)) pe_int (nomark _)) (pw_and1 (pt_val (pe_callB call_isiT (by rfl) T.n_isinstance (by decide +kernel) (pa_cons (pe_ix ix_tup (pv 1) pe_int (fun _ _ => rfl)) (pa_cons (pe_tup (pa_cons (pe_bltn (by rfl) T.n_list (by decide +kernel) (show RelV (.ty "list") (.type "list") from rfl)) (pa_cons (pe_bltn (by rfl) T.n_tuple (by decide +kernel) (show RelV (.ty "tuple") (.type "tuple") from rfl)) pa_nil))) pa_nil)))))))) (pss_one (ps_ret (pe_meth (pv 0) T.c_Session T.m_Session_attempt GA hr bA vA (passK tk) (pa_cons (pe_ix ix_tup (pv 1) pe_int (fun _ _ => rfl)) pa_nil)))) pss_nil) (pss_one (ps_raiseK rfl tk (pmk_fail T.fail T.g_Failed (L2H.roomH_of hr2) (pa_cons (pe_tup pa_nil) pa_nil)).pmk))))))), ?_⟩
    have fails : ∀ (H1 : Hp), Same H H1 → Raised K H [] E → tMkFail (cFail K) (tCons (tTup tNil) tNil) [some (.ref S), some (.ref t)] H1 (fun cls d H' => E cls d H') := fun H1 s1 hR =>
      ⟨Nat.zero_le _, fun pt npt => ⟨_, rfl, fun d nd => hR d pt _ (same_upd (same_upd s1 (s1.free npt)) (s1.free (upd_none nd).2)) (s1.free (upd_none nd).2) upd_same (by rw [upd_ne (upd_none nd).1.symm, upd_same])⟩⟩
    obtain ⟨dx, fs, hS, hfs⟩ := hS
    obtain ⟨fa', fb', fc', fd', rfl⟩ := map4 hfs
    have sq : ∀ {H1 : Hp}, Same H H1 → SqT K H1 t xs := fun e => (SqT.of ht).ext e
    refine ⟨_, rfl, _, _, _, _, true, rfl, .ty "tuple", .base (.tup ht), kit_ty (by decide +kernel), true, rfl, iteF2 rfl ?_⟩
    refine ⟨_, rfl, t, _, rfl, .inr (SqT.of ht), rfl, _, rfl, ?_⟩
    by_cases hx : xs = []
    · subst hx
      refine iteT2 rfl (iteT2 rfl ?_)
      rcases h with ⟨_, hR⟩ | ⟨z, r, e, _⟩ | ⟨k, e, _⟩ | ⟨e, _⟩ | ⟨A', u, e, _⟩
      · exact fails H (Same.refl H) hR
      · cases e
      · cases e
      · cases e
      · cases e
    · obtain ⟨x, r, rfl⟩ : ∃ x r, xs = x :: r := by
        cases xs with
        | nil => exact absurd rfl hx
        | cons x r => exact ⟨x, r, rfl⟩
      refine iteF2 (decide_eq_false fun y => by have y2 := V.int.inj y; have y3 : ((r.length + 1 : Nat) : Int) = 0 := y2; omega) ?_
      have head : (NotT K H x "str" ∧ Raised K H [] E) ∨ ∃ z, x = .str z ∧ (
          (Raised K H [] E ∧ EditR K H z r false ∧ (z = "ask" → ∀ x, r = [x] → KeyV K H x false) ∧ ¬ (z = "undo" ∧ r = []) ∧ (z = "attempt" → ∀ x, r = [x] → ∃ u, TyX K H x u ∧ PySem.W.kitAny K u [.type "list", .type "tuple"] = some false)) ∨
          (EditR K H z r true ∧ ∀ H1, Same H H1 → spSEdit K [.ref S, .ref t] H1 Q E0) ∨
          (z = "ask" ∧ ∃ k, r = [.ref k] ∧ KeyV K H (.ref k) true ∧ ∀ H1, Same H H1 → spSAsk K [.ref S, .ref k] H1 Q E0) ∨
          (z = "undo" ∧ r = [] ∧ ∀ H1, Same H H1 → spUndo K [.ref S] H1 Q E0) ∨
          (z = "attempt" ∧ ∃ A u, r = [.ref A] ∧ TyX K H (.ref A) u ∧ PySem.W.kitAny K u [.type "list", .type "tuple"] = some true ∧ ∀ H1, Same H H1 → spA [.ref S, .ref A, .bl true] H1 Q E)) := by
        rcases h with ⟨hb, hR⟩ | ⟨z, r', e, h1, h2⟩ | ⟨k, e, h1, h2⟩ | ⟨e, h2⟩ | ⟨A', u, e, h1, h2, h3⟩
        · rcases hb with e | ⟨x', r', e, n⟩ | ⟨z, r', e, h1, h2, h3, h4⟩
          · cases e
          · cases e
            exact .inl ⟨n, hR⟩
          · cases e
            exact .inr ⟨z, rfl, .inl ⟨hR, h1, h2, h3, h4⟩⟩
        · cases e
          exact .inr ⟨z, rfl, .inr (.inl ⟨h1, h2⟩)⟩
        · cases e
          exact .inr ⟨_, rfl, .inr (.inr (.inl ⟨rfl, k, rfl, h1, h2⟩))⟩
        · cases e
          exact .inr ⟨_, rfl, .inr (.inr (.inr (.inl ⟨rfl, rfl, h2⟩)))⟩
        · cases e
          exact .inr ⟨_, rfl, .inr (.inr (.inr (.inr ⟨rfl, A', u, rfl, h1, h2, h3⟩)))⟩
      clear h
      rcases head with ⟨⟨u, ty, ki⟩, hR⟩ | ⟨z, rfl, h⟩
      · refine ⟨_, rfl, t, _, 0, x, rfl, rfl, SqT.of ht, at0, _, _, _, _, false, rfl, .ty "str", ty, ki, false, rfl, iteT2 rfl ?_⟩
        exact fails H (Same.refl H) hR
      · refine ⟨_, rfl, t, _, 0, .str z, rfl, rfl, SqT.of ht, at0, _, _, _, _, true, rfl, .ty "str", .base (.str z), kit_ty (by decide +kernel), true, rfl, iteF2 rfl ?_⟩
        rcases h with ⟨hR, h1, h2, h3, h4⟩ | ⟨h1, h2⟩ | ⟨rfl, k, rfl, h1, h2⟩ | ⟨rfl, rfl, h2⟩ | ⟨rfl, A', u, rfl, h1, h2, h3⟩
        · refine ⟨_, rfl, t, z, r, false, rfl, SqT.of ht, h1, fun H1 s1 => ⟨false, rfl, iteF2 rfl ?_⟩⟩
          have hu2 : (decide (z = "undo") && r.isEmpty) = false := by
            cases r with
            | nil => exact Bool.and_eq_false_iff.mpr (.inl (decide_eq_false fun y => h3 ⟨y, rfl⟩))
            | cons _ _ => exact Bool.and_eq_false_iff.mpr (.inr rfl)
          by_cases ca : z = "ask" ∧ r.length = 1
          · obtain ⟨rfl, hl⟩ := ca
            obtain ⟨y, rfl⟩ : ∃ y, r = [y] := by
              match r, hl with
              | [y], _ => exact ⟨y, rfl⟩
            refine and3_yes rfl (sq s1) rfl ⟨_, rfl, t, _, 1, y, rfl, rfl, sq s1, atI_nat (j := 1) rfl, y, false, rfl, (h2 rfl y rfl).same s1, fun H2 s2 => ⟨false, rfl, iteF2 rfl ?_⟩⟩
            refine undo_test false rfl (sq (s1.trans s2)) hu2 fun H3 s3 => iteF2 rfl ?_
            have s4 := (s1.trans s2).trans s3
            exact and3_no rfl (sq s4) (by intro z; cases z.1) (iteF2 rfl (fails H3 s4 hR))
          · refine and3_no rfl (sq s1) ca (iteF2 rfl ?_)
            refine undo_test false rfl (sq s1) hu2 fun H3 s3 => iteF2 rfl ?_
            have s4 := s1.trans s3
            by_cases cb : z = "attempt" ∧ r.length = 1
            · obtain ⟨rfl, hl⟩ := cb
              obtain ⟨y, rfl⟩ : ∃ y, r = [y] := by
                match r, hl with
                | [y], _ => exact ⟨y, rfl⟩
              obtain ⟨u, ty, ki⟩ := h4 rfl y rfl
              refine and3_yes rfl (sq s4) rfl ⟨_, rfl, t, _, 1, y, rfl, rfl, sq s4, atI_nat (j := 1) rfl, by decide, fun p np => ⟨y, p, _, u, _, false, rfl, upd_same, .cons (.ty "list") (.cons (.ty "tuple") .nil), TyX.same (same_upd s4 (s4.free np)) ty, ki, false, rfl, iteF2 rfl ?_⟩⟩
              exact fails _ (same_upd s4 (s4.free np)) hR
            · exact and3_no rfl (sq s4) cb (iteF2 rfl (fails H3 s4 hR))
        · refine ⟨_, rfl, t, z, r, true, rfl, SqT.of ht, h1, fun H1 s1 => ⟨true, rfl, iteT2 rfl ?_⟩⟩
          exact ⟨_, rfl, S, dx, _, rfl, s1 _ _ hS, rfl, _, rfl, h2 H1 s1⟩
        · refine ⟨_, rfl, t, _, _, false, rfl, SqT.of ht, .other (by intro z; cases z.1) (by intro z; cases z.1) (by intro z; cases z.1) (by intro z; cases z.1), fun H1 s1 => ⟨false, rfl, iteF2 rfl ?_⟩⟩
          refine and3_yes rfl (sq s1) rfl ⟨_, rfl, t, _, 1, _, rfl, rfl, sq s1, atI_nat (j := 1) rfl, _, true, rfl, h1.same s1, fun H2 s2 => ⟨true, rfl, iteT2 rfl ?_⟩⟩
          have s4 := s1.trans s2
          exact ⟨_, rfl, S, dx, _, rfl, s4 _ _ hS, rfl, _, rfl, t, _, 1, _, rfl, rfl, sq s4, atI_nat (j := 1) rfl, h2 H2 s4⟩
        · refine ⟨_, rfl, t, _, _, false, rfl, SqT.of ht, .other (by intro z; cases z.1) (by intro z; cases z.1) (by intro z; cases z.1) (by intro z; cases z.1), fun H1 s1 => ⟨false, rfl, iteF2 rfl ?_⟩⟩
          refine and3_no rfl (sq s1) (by intro z; cases z.1) (iteF2 rfl ?_)
          refine undo_test true rfl (sq s1) rfl fun H3 s3 => iteT2 rfl ?_
          have s4 := s1.trans s3
          exact ⟨_, rfl, S, dx, _, rfl, s4 _ _ hS, rfl, h2 H3 s4⟩
        · refine ⟨_, rfl, t, _, _, false, rfl, SqT.of ht, .other (by intro z; cases z.1) (by intro z; cases z.1) (by intro z; cases z.1) (by intro z; cases z.1), fun H1 s1 => ⟨false, rfl, iteF2 rfl ?_⟩⟩
          refine and3_no rfl (sq s1) (by intro z; cases z.1) (iteF2 rfl ?_)
          refine undo_test false rfl (sq s1) (Bool.and_eq_false_iff.mpr (.inr rfl)) fun H3 s3 => iteF2 rfl ?_
          have s4 := s1.trans s3
          refine and3_yes rfl (sq s4) rfl ⟨_, rfl, t, _, 1, _, rfl, rfl, sq s4, atI_nat (j := 1) rfl, by decide, fun p np => ⟨_, p, _, u, _, true, rfl, upd_same, .cons (.ty "list") (.cons (.ty "tuple") .nil), TyX.same (same_upd s4 (s4.free np)) h1, h2, true, rfl, iteT2 rfl ?_⟩⟩
          have s5 := same_upd (o := .tup [.ty "list", .ty "tuple"]) s4 (s4.free np)
          exact ⟨_, rfl, S, dx, _, rfl, s5 _ _ hS, rfl, _, rfl, t, _, 1, _, rfl, rfl, sq s5, atI_nat (j := 1) rfl, h3 _ s5⟩
end
end K98
/-! K98Deeds -/
set_option Elab.async false
set_option linter.all false
set_option maxRecDepth 100000
set_option maxHeartbeats 1000000
/-! do_deeds -/
namespace K98
open PySem PySem.Spec PyProof.Rows L2
section
variable {w : World} {K : Fg} {mg : Str → Option Value} {base : Heap}
/-- a list or a tuple that we laid -/
def LT (H : Hp) (A : Addr) (ts : List V) : Prop := H A = some (.lst ts) ∨ H A = some (.tup ts)
/-- what a raised Failed over turn i asks of the caller -/
def Deeper (K : Fg) (i : Nat) (E : XK) : XK := fun cls d H => cls = .ref (cFail K) ∧ ∃ dd pt p, d = some dd ∧ H dd = some (.xd [(("path" : Str), .ref pt)]) ∧ H pt = some (.tup p) ∧ p.length ≤ 1000 ∧ ∀ d2 pt2 H2, Same H H2 → H d2 = none → H2 d2 = some (.xd [(("path" : Str), .ref pt2)]) → H2 pt2 = some (.tup (.int i :: p)) → E (.ref (cFail K)) (some d2) H2
def spDD (K : Fg) (spD : Sp) : Sp := fun vs H Q E => ∃ (S A L : Addr) (ts : List V) (I : Nat → Hp → Prop), vs = [.ref S, .ref A] ∧ LT H A ts ∧ ts.length ≤ 1000 ∧ A ≠ S ∧ A ≠ L ∧ (∃ dx fs, H S = some (.ins (cSes K) dx fs)) ∧ (∃ xs, H L = some (.lst xs)) ∧
  (∀ i H1, I i H1 → ∃ dx fs, H1 S = some (.ins (cSes K) dx fs) ∧ fs.lookup ("do_deed" : Str) = none) ∧
  I 0 H ∧ (∀ r i H1 H2, H r = none → (∃ xs, H1 r = some (.lst xs)) → I i H1 → But r H1 H2 → I i H2) ∧ (∀ i H1 H2, I i H1 → Same H1 H2 → I i H2) ∧
  (∀ i x H1, ts[i]? = some x → I i H1 → Keep S L H H1 → ∀ (Q' : VK) (E' : XK), (∀ v H2, I (i + 1) H2 → Keep S L H1 H2 → Q' v H2) → (∀ cls d H2, Deeper K i E cls d H2 → E' cls d H2) → spD [.ref S, x] H1 Q' E') ∧
  (∀ r xs H1, I ts.length H1 → Keep S L H H1 → H1 r = some (.lst xs) → Q (.ref r) H1)
theorem small_line' : 1001 ≤ sizeLine := by
  rw [sizeLine_eq]
  decide
theorem snew {H : Hp} {p : Addr} {o : HO} (h : H p = none) : Same H (upd H p o) := same_upd (Same.refl H) h
def ddTb (K : Fg) (spD : Sp) (W : WX) : TS := tDrop (tBM K "list" rAppend (tVar 2) (tCons (tMethAt (He.ga K "Session") "do_deed" spD [] (WE W) (tVar 0) (tCons (tVar 4) tNil)) tNil))
def ddTs (K : Fg) (E : XK) (a : Addr) (cls : Value) (d : Option Addr) : TS := fun _ σ H => tMkFail (cFail K) (tCons (tOp (rCatT K) (tTup (tCons (tVar 3) tNil)) (tXf a cls d (cFail K) "path" (tVar 5))) tNil) σ H (fun cls d H' => wGone 5 (fun cls d _ H => E cls d H) cls d σ H')
def ddTry (K : Fg) (spD : Sp) (E : XK) : TS := fun D σ H => ddTb K spD (wFirst K (.ref (cFail K)) 5 (ddTs K E) D) D σ H
theorem ok_dd (T : TX K mg) {k : Nat} {spD : Sp} (GD : FnG w K mg base (CXk R.prog w) k (a_Session_do_deed K) P_Session_do_deed [] spD) : FnG w K mg base (CXk R.prog w) (k + 1) (a_Session_do_deeds K) P_Session_do_deeds [] (spDD K spD) := by
  obtain ⟨fd, F⟩ := T.D_Session_do_deeds
  obtain ⟨fD, dD, GD, bD, vD, kD⟩ := GD
  cases vD
  refine ⟨fd, [], F.ok sc_Session_do_deeds (fun vs H Q E h => ?_) (fun cdv A outer s H vs Q E hr h => ?_), F.bindsN fun _ _ _ _ _ _ us hl => match us, hl with | [_, _], _ => rfl, .nil, F.kp⟩
  · obtain ⟨S, A, L, ts, I, rfl, _⟩ := h
    rfl
  · obtain ⟨S, a, L, ts, I, rfl, hA, hz, nS, nL, hS, hL, hI, i0, st1, st2, step, fin⟩ := h
    have hu := hu_of hr
    have tk : TakesK (cxOf (CXk R.prog w) R.prog w K mg base N_Session_do_deeds "Session.do_deeds" (defScope s_Session_do_deeds) (a_Session_do_deeds K) cdv A outer s H E) (fun cls d _ H => E cls d H) := takesK_of rfl rfl rfl rfl
    refine ⟨_, (pss_cons (ps_set (i := 2) sc_Session_do_deeds.nd rfl (.inl rfl) (pe_lst pa_nil))
      (pss_cons (ps_for PassesOwn.leaving rfl (pi_enumA (by rfl) T.n_enumerate (pa_cons (pv 1) pa_nil)) (pg_tup rfl (pgs_cons (pg_name (i := 3) sc_Session_do_deeds.nd rfl (Or.inl rfl)) (pgs_cons (pg_name (i := 4) sc_Session_do_deeds.nd rfl (Or.inl rfl)) pgs_nil)))
        (pss_one (ps_try_firstK (i := 5) (tb := ddTb K spD) (ts := ddTs K E)
          rfl rfl rfl sc_Session_do_deeds.nd rfl rfl (c := .ref (cFail K)) (And.intro (by rfl) ⟨by decide, .inl T.g_Failed⟩) (fun _ => PassesOwnAt.leaving) tk ?hb ?hs)))
      (pss_one (ps_ret (pv 2))))), ?_⟩
    case hb => exact fun W pn xe tkW po => pss_one (ps_expr (pe_bm PySem.F.plainAttrs_list PySem.F.slot_list_append PySem.F.type_list_append mt_append (pv 2) (pa_cons (pe_methAt (E := WE W) (pv 0) T.c_Session T.m_Session_do_deed GD hr bD .nil (fun σ => passAtK tkW σ) (pa_cons (pv 4) pa_nil)) pa_nil)))
    case hs => exact fun x oe cls d pn xe hz hf tkS hot => pss_one (ps_raiseNK hot tkS (pmk_fail T.fail T.g_Failed (k := k) ⟨hr.dp, hr.un⟩ (pa_cons (pe_op (op_catT : OpR _ _ (rCatT K)) (pe_tup (pa_cons (pv 3) pa_nil)) (PE.nox (pe_xf T.xf T.noPath hz hf (pv 5)))) pa_nil)))
    refine ⟨by decide, fun r nr => ⟨_, rfl, a, ts, rfl, fun H' => H' a = H a, ?_, ?_, fun J wk => for_it (tb := ddTry K spD E) wk (fun i σ H1 => ∃ a3 a4 a5 xs, σ = [some (.ref S), some (.ref a), some (.ref r), a3, a4, a5] ∧ H1 r = some (.lst xs) ∧ xs.length = i ∧ I i H1 ∧ Keep S L H H1) ?_ ?_ ?_ ?_⟩⟩
    · rcases hA with h | h
      · exact .inl fun H' e => SqL.of (e.trans h)
      · exact .inr fun H' e => SqT.of (e.trans h)
    · show upd H r (.lst []) a = H a
      have nra : a ≠ r := by
        intro z
        rw [← z] at nr
        rcases hA with h | h
        · rw [nr] at h; cases h
        · rw [nr] at h; cases h
      exact upd_ne nra
    · exact ⟨_, _, _, [], rfl, upd_same, rfl, st2 0 H _ i0 (same_upd (Same.refl H) nr), Keep.of_same (same_upd (Same.refl H) nr)⟩
    · rintro i σ H1 _ ⟨_, _, _, _, _, _, _, _, kp⟩
      rcases hA with h | h
      · rw [h]; exact kp a _ nS nL h
      · rw [h]; exact kp a _ nS nL h
    · rintro i v σ H1 H2 hi ⟨a3, a4, a5, xs, rfl, hr1, hxl, hi1, kp⟩ ⟨T0, u1, u2, rfl, nT0, rfl, e1, e2⟩
      obtain rfl : V.int (i : Nat) = u1 := Option.some.inj e1
      have sT : Same H1 (upd H1 T0 (.tup [.int (i : Nat), u2])) := same_upd (Same.refl H1) nT0
      have i2 := st2 i _ _ hi1 sT
      have kp2 := kp.trans (Keep.of_same (S := S) (L := L) sT)
      have hr2 := sT _ _ hr1
      refine ⟨T0, _, rfl, SqT.of upd_same, rfl, _, _, rfl, _, _, rfl, rfl, ?_⟩
      obtain ⟨dx, fs, hS2, hl2⟩ := hI i _ i2
      refine ⟨_, rfl, .inl ⟨rfl, xs, SqL.of hr2⟩, _, rfl, S, dx, fs, rfl, hS2, hl2, _, rfl, ?_⟩
      have rS : r ≠ S := by
        intro z
        obtain ⟨dx, fs, h⟩ := hS
        rw [← z, nr] at h
        cases h
      have rL : r ≠ L := by
        intro z
        obtain ⟨ys, h⟩ := hL
        rw [← z, nr] at h
        cases h
      refine step i u2 _ e2 i2 kp2 _ _ (fun v H3 i3 kp3 => ?_) (fun cls d H3 dp => ?_)
      · have hr3 := kp3 r _ rS rL hr2
        refine ⟨r, xs, v, rfl, rfl, hr3, Nat.lt_of_lt_of_le (by omega : xs.length < 1001) (small_line' ), ⟨_, _, _, xs ++ [v], rfl, upd_same, by rw [List.length_append, hxl]; rfl, st1 r (i + 1) H3 _ nr ⟨xs, hr3⟩ i3 (But.of_same (Same.refl H3)).upd, fun b o h1 h2 h3 => ?_⟩⟩
        rw [upd_ne (ne_of_none h3 nr)]
        exact kp3 b o h1 h2 (kp2 b o h1 h2 h3)
      · obtain ⟨rfl, dd, pt, p, rfl, hdd, hpt, hpl, dE⟩ := dp
        refine ⟨T.exm, fun x nx => ?_⟩
        refine ⟨_, rfl, Nat.le_trans (by decide : 1 ≤ 1001) small_line', fun p1 np1 => ⟨_, rfl, rfl, rfl, dd, _, .ref pt, rfl, (same_upd (Same.refl H3) np1) _ _ hdd, rfl, p1, pt, _, p, rfl, rfl, SqT.of upd_same, SqT.of ((same_upd (Same.refl H3) np1) _ _ hpt), by simp, ?_, ?_, ?_⟩⟩
        · rw [sizeLine_eq]
          show 1 + p.length ≤ 16777216
          omega
        · intro z
          subst z
          refine ⟨_, rfl, fun d2 nd2 => dE d2 p1 _ ((snew np1).trans (snew nd2)) (upd_none nd2).2 upd_same ?_⟩
          rw [upd_ne (upd_none nd2).1.symm, upd_same]
        · intro _ p2 np2
          refine ⟨_, rfl, fun d2 nd2 => dE d2 p2 _ (((snew np1).trans (snew np2)).trans (snew nd2)) (upd_none (upd_none nd2).2).2 upd_same ?_⟩
          rw [upd_ne (upd_none nd2).1.symm, upd_same]
          rfl
    · rintro σ H1 ⟨a3, a4, a5, xs, rfl, hr1, hxl, hi1, kp⟩
      exact ⟨_, rfl, fin r xs H1 hi1 kp hr1⟩
end
end K98
/-! K98Att -/
set_option Elab.async false
set_option linter.all false
set_option maxRecDepth 100000
set_option maxHeartbeats 1000000
/-! attempt -/
namespace K98
open PySem PySem.Spec PyProof.Rows L2
section
variable {w : World} {K : Fg} {mg : Str → Option Value} {base : Heap}
/-- behind do_deeds: what attempt asks for -/
def QA (K : Fg) (S e L : Addr) (fl n : Nat) (Q : VK) : VK := fun v H2 => ∃ cur2 items2, SesAt K H2 S e cur2 L items2 n ∧ ∀ H3, But S H2 H3 → SesAt K H3 S e cur2 L items2 fl → Q v H3
def EA (K : Fg) (S e cur P : Addr) (fl : Nat) (E : XK) : XK := fun cls d H2 => ∃ dx c2 L2 n2, H2 S = some (.ins (cSes K) dx (sesF e c2 L2 n2)) ∧ ∀ H3, But S H2 H3 → H3 S = some (.ins (cSes K) dx (sesF e cur P fl)) → E cls d H3
def spAtt (K : Fg) (spDs : Sp) : Sp := fun vs H Q E => ∃ (S A e cur L : Addr) (items : List V) (fl : Nat), vs = [.ref S, .ref A, .bl true] ∧ SesAt K H S e cur L items fl ∧ items.length ≤ 1000 ∧
  ∀ P H1, But S H H1 → H P = none → H1 P = some (.lst items) → SesAt K H1 S e cur L items items.length → ∀ (Q' : VK) (E' : XK), (∀ v H2, QA K S e L fl items.length Q v H2 → Q' v H2) → (∀ cls d H2, EA K S e cur P fl E cls d H2 → E' cls d H2) → spDs [.ref S, .ref A] H1 Q' E'
def attTb (spDs : Sp) (K : Fg) (W : WX) : TS := tSeq (tAsg (tMethAt (He.ga K "Session") "do_deeds" spDs [] (WE W) (tVar 0) (tCons (tVar 1) tNil)) (gName 6)) (tIfS (tB (tVar 2)) (tPar 3 4 (tCons (tFld K (tVar 0) "current") (tCons (tFld K (tVar 0) "past") tNil))) tNext)
def attFs (K : Fg) : TS := tSeq (sFld K (tVar 0) (tVar 3) "current") (tSeq (sFld K (tVar 0) (tVar 4) "past") (sFld K (tVar 0) (tVar 5) "floor"))
theorem SesAt.moved {H H3 : Hp} {S e c2 L cur' dx : Addr} {items : List V} {n fl' : Nat} (a : SesAt K H S e c2 L items n) (b : But S H H3) (h : H3 S = some (.ins (cSes K) dx (sesF e cur' L fl'))) : SesAt K H3 S e cur' L items fl' := by
  obtain ⟨dx0, h1⟩ := a.ins
  obtain ⟨de, wv, rv, tk, rn, e1, e2, e3⟩ := a.eng
  refine ⟨⟨dx, h⟩, b L _ (ne_of a.lst h1 (by intro z; cases z)) a.lst, de, wv, rv, tk, rn, b e _ (ne_of e1 h1 ?_) e1, b tk _ (ne_of e2 h1 (by intro z; cases z)) e2, e3⟩
  intro z
  have z2 := congrArg List.length (HO.ins.inj z).2.2
  exact absurd z2 (by show ¬ (5 = 4); decide)
theorem ok_att (T : TX K mg) {k : Nat} {spDs : Sp} (GD : FnG w K mg base (CXk R.prog w) k (a_Session_do_deeds K) P_Session_do_deeds [] spDs) : FnG w K mg base (CXk R.prog w) (k + 1) (a_Session_attempt K) P_Session_attempt [.bl true] (spAtt K spDs) := by
  obtain ⟨fd, F⟩ := T.D_Session_attempt
  obtain ⟨fD, dD, GD, bD, vD, kD⟩ := GD
  cases vD
  obtain ⟨ds, hv, hb⟩ : ∃ ds, Vals [V.bl true] ds ∧ Binds K fd P_Session_attempt ds := F.binds0 2 (by intro z; cases z) rfl fun D doc pm an cdv ct us ks h1 h2 => match us, ks, h1, h2 with
    | [_, _], [_], _, _ => ⟨_, _, _, _, _, _, rfl, rfl, rfl⟩
  refine ⟨fd, ds, F.ok sc_Session_attempt (fun vs H Q E h => ?_) (fun cdv A outer s H vs Q E hr h => ?_), hb, hv, F.kp⟩
  · obtain ⟨S, A, e, cur, L, items, fl, rfl, _⟩ := h
    rfl
  · obtain ⟨S, a, e, cur, L, items, fl, rfl, sa, hz, step⟩ := h
    have hu := hu_of hr
    have tk : TakesK (cxOf (CXk R.prog w) R.prog w K mg base N_Session_attempt "Session.attempt" (defScope s_Session_attempt) (a_Session_attempt K) cdv A outer s H E) (fun cls d _ H => E cls d H) := takesK_of rfl rfl rfl rfl
    refine ⟨_, (pss_cons (ps_par3 (i := 3) (j := 4) (l := 5) rfl sc_Session_attempt.nd rfl rfl rfl (by decide) (by decide) (by decide) rfl rfl rfl (pa_cons (pe_fld (pv 0) rfl) (pa_cons (pe_callTy call_list_of (by rfl) T.n_list (by decide +kernel) (pa_cons (pe_fld (pv 0) rfl) pa_nil)) (pa_cons (pe_fld (pv 0) rfl) pa_nil))) rfl)
      (pss_cons (ps_fld (pv 0) (pe_callB call_len_seq (by rfl) T.n_len boot_len (pa_cons (pv 4) pa_nil)) rfl)
      (pss_cons (ps_finK (tb := attTb spDs K) (tfs := attFs K) (tf := attFs K) rfl rfl rfl tk ?hb (pss_cons (ps_fld (pv 0) (pv 3) rfl) (pss_cons (ps_fld (pv 0) (pv 4) rfl) (pss_one (ps_fld (pv 0) (pv 5) rfl)))) ?hs)
      (pss_one (ps_ret (pv 6)))))), ?_⟩
    case hb => exact fun W pn xe tkW po => pss_cons (ps_asg (pe_methAt (E := WE W) (pv 0) T.c_Session T.m_Session_do_deeds GD hr bD .nil (fun σ => passAtK tkW σ) (pa_cons (pv 1) pa_nil)) (pg_name (i := 6) sc_Session_attempt.nd rfl (Or.inl rfl))) (pss_one (ps_if (pt_val (pv 2)) (pss_one (ps_par (i := 3) (j := 4) rfl sc_Session_attempt.nd rfl rfl (by decide) rfl rfl (pa_cons (pe_fld (pv 0) rfl) (pa_cons (pe_fld (pv 0) rfl) pa_nil)) rfl)) pss_nil))
    case hs => exact fun x pn => pss_cons (ps_fld (pv 0) (pv 3) rfl) (pss_cons (ps_fld (pv 0) (pv 4) rfl) (pss_one (ps_fld (pv 0) (pv 5) rfl)))
    obtain ⟨dx, h1⟩ := sa.ins
    refine ⟨_, rfl, S, cSes K, dx, _, _, rfl, h1, T.c_Session, T.at_Session_current, rfl, ?_⟩
    refine ⟨_, rfl, S, cSes K, dx, _, _, rfl, h1, T.c_Session, T.at_Session_past, rfl, L, items, rfl, .inl (SqL.of sa.lst), fun P nP => ?_⟩
    refine ⟨_, rfl, S, cSes K, dx, _, _, rfl, snew nP _ _ h1, T.c_Session, T.at_Session_floor, rfl, _, _, _, rfl, ?_⟩
    refine ⟨_, rfl, P, items, rfl, .inl (SqL.of upd_same), _, rfl, S, cSes K, dx, _, rfl, snew nP _ _ h1, T.c_Session, T.at_Session_floor, (by show 4 < 1000; decide), ?_⟩
    have PS : P ≠ S := by
      intro z
      rw [z, h1] at nP
      cases nP
    have b1 : But S H (upd (upd H P (.lst items)) S (.ins (cSes K) dx (sesF e cur L items.length))) := ((But.of_same (Same.refl H)).new nP).upd
    have s1 := sa.moved (cur' := cur) (dx := dx) (fl' := items.length) b1 upd_same
    have hP : (upd (upd H P (.lst items)) S (.ins (cSes K) dx (sesF e cur L items.length))) P = some (.lst items) := by rw [upd_ne PS, upd_same]
    obtain ⟨dx1, h2⟩ := s1.ins
    refine ⟨_, rfl, S, _, _, rfl, h2, rfl, _, rfl, ?_⟩
    refine step P _ b1 nP hP s1 _ _ (fun v H2 q => ?_) (fun cls d H2 q => ?_)
    · obtain ⟨cur2, items2, s2, qq⟩ := q
      obtain ⟨dx2, h3⟩ := s2.ins
      refine ⟨_, rfl, true, rfl, iteT2 rfl ?_⟩
      refine ⟨_, rfl, S, cSes K, dx2, _, _, rfl, h3, T.c_Session, T.at_Session_current, rfl, ?_⟩
      refine ⟨_, rfl, S, cSes K, dx2, _, _, rfl, h3, T.c_Session, T.at_Session_past, rfl, _, _, rfl, ?_⟩
      refine ⟨_, rfl, _, rfl, S, cSes K, dx2, _, rfl, h3, T.c_Session, T.at_Session_current, (by show 4 < 1000; decide), ?_⟩
      refine ⟨_, rfl, _, rfl, S, cSes K, dx2, _, rfl, upd_same, T.c_Session, T.at_Session_past, (by show 4 < 1000; decide), ?_⟩
      refine ⟨_, rfl, _, rfl, S, cSes K, dx2, _, rfl, upd_same, T.c_Session, T.at_Session_floor, (by show 4 < 1000; decide), ?_⟩
      have b3 := (((But.of_same (x := S) (Same.refl H2)).upd (o := .ins (cSes K) dx2 (putF "current" (.ref cur2) (sesF e cur2 L items.length)))).upd (o := .ins (cSes K) dx2 (putF "past" (.ref L) (putF "current" (.ref cur2) (sesF e cur2 L items.length))))).upd (o := .ins (cSes K) dx2 (putF "floor" (.int fl) (putF "past" (.ref L) (putF "current" (.ref cur2) (sesF e cur2 L items.length)))))
      exact ⟨_, rfl, qq _ b3 (s2.moved (cur' := cur2) (dx := dx2) (fl' := fl) b3 upd_same)⟩
    · obtain ⟨dx2, c2, L2, n2, h3, qq⟩ := q
      refine ⟨_, rfl, _, rfl, S, cSes K, dx2, _, rfl, h3, T.c_Session, T.at_Session_current, (by show 4 < 1000; decide), ?_⟩
      refine ⟨_, rfl, _, rfl, S, cSes K, dx2, _, rfl, upd_same, T.c_Session, T.at_Session_past, (by show 4 < 1000; decide), ?_⟩
      refine ⟨_, rfl, _, rfl, S, cSes K, dx2, _, rfl, upd_same, T.c_Session, T.at_Session_floor, (by show 4 < 1000; decide), ?_⟩
      have b3 := (((But.of_same (x := S) (Same.refl H2)).upd (o := .ins (cSes K) dx2 (putF "current" (.ref cur) (sesF e c2 L2 n2)))).upd (o := .ins (cSes K) dx2 (putF "past" (.ref P) (putF "current" (.ref cur) (sesF e c2 L2 n2))))).upd (o := .ins (cSes K) dx2 (putF "floor" (.int fl) (putF "past" (.ref P) (putF "current" (.ref cur) (sesF e c2 L2 n2)))))
      exact qq _ b3 upd_same
end
end K98
/-! K98Lev -/
set_option Elab.async false
set_option linter.all false
set_option maxRecDepth 100000
set_option maxHeartbeats 1000000
/-! attempt by levels: n attempts within one another -/
namespace K98
open PySem PySem.Spec PyProof.Rows L2
section
variable {w : World} {K : Fg} {mg : Str → Option Value} {base : Heap}
def spNone : Sp := fun _ _ _ _ => False
def spAttN (K : Fg) : Nat → Sp
  | 0 => spNone
  | n + 1 => spAtt K (spDD K (spDo K (spAttN K n)))
theorem ok_attN (T : TX K mg) : ∀ n, FnG w K mg base (CXk R.prog w) (8 + 3 * n) (a_Session_attempt K) P_Session_attempt [.bl true] (spAttN K n)
  | 0 => by
    obtain ⟨fd, F⟩ := T.D_Session_attempt
    obtain ⟨ds, hv, hb⟩ : ∃ ds, Vals [V.bl true] ds ∧ Binds K fd P_Session_attempt ds := F.binds0 2 (by intro z; cases z) rfl fun D doc pm an cdv ct us ks h1 h2 => match us, ks, h1, h2 with
      | [_, _], [_], _, _ => ⟨_, _, _, _, _, _, rfl, rfl, rfl⟩
    exact ⟨fd, ds, F.ok sc_Session_attempt (fun vs H Q E h => h.elim) (fun cdv A outer s H vs Q E hr h => h.elim), hb, hv, F.kp⟩
  | n + 1 => ok_att T (ok_dd T (ok_do T (Nat.le_add_right 8 _) (ok_attN T n)))
/-! ### what stays -/
/-- all but lists and instances of two and more attributes stay -/
def KT (H H' : Hp) : Prop := ∀ b o, H b = some o → (∀ xs, o ≠ .lst xs) → (∀ C dx fs, o = .ins C dx fs → fs.length < 2) → H' b = some o
theorem KT.refl {H : Hp} : KT H H := fun _ _ h _ _ => h
theorem KT.trans {H H1 H2 : Hp} (a : KT H H1) (b : KT H1 H2) : KT H H2 := fun c o h h1 h2 => b c o (a c o h h1 h2) h1 h2
theorem KT.of_same {H H1 : Hp} (a : Same H H1) : KT H H1 := fun c o h _ _ => a c o h
theorem KT.of_keep {S L : Addr} {xs : List V} {H H1 : Hp} (a : Keep S L H H1) (hS : Big H S) (hL : H L = some (.lst xs)) : KT H H1 := fun c o h h1 h2 => a c o (by
    intro z
    obtain ⟨C, dx, fs, hS, hl⟩ := hS
    rw [z, hS] at h
    have h3 := h2 _ _ _ (Option.some.inj h).symm
    omega) (by
    intro z
    rw [z, hL] at h
    exact h1 _ (Option.some.inj h).symm) h
theorem KT.of_but {f : Addr} {xs : List V} {H H1 : Hp} (a : But f H H1) (hf : H f = some (.lst xs)) : KT H H1 := fun c o h h1 _ => a c o (by
    intro z
    rw [z, hf] at h
    exact h1 _ (Option.some.inj h).symm) h
theorem KT.of_butS {S : Addr} {H H1 : Hp} (a : But S H H1) (hS : Big H S) : KT H H1 := fun c o h h1 h2 => a c o (by
    intro z
    obtain ⟨C, dx, fs, hS, hl⟩ := hS
    rw [z, hS] at h
    have h3 := h2 _ _ _ (Option.some.inj h).symm
    omega) h
theorem KT.tup {H H1 : Hp} (a : KT H H1) {t : Addr} {xs : List V} (h : H t = some (.tup xs)) : H1 t = some (.tup xs) := a t _ h (by intro _ z; cases z) (by intro _ _ _ z; cases z)
theorem KT.dK {H H1 : Hp} (a : KT H H1) {t : Addr} {xs : KVs} (h : H t = some (.dK xs)) : H1 t = some (.dK xs) := a t _ h (by intro _ z; cases z) (by intro _ _ _ z; cases z)
theorem KT.ins {H H1 : Hp} (a : KT H H1) {t C dx : Addr} {f : Str} {v : V} (h : H t = some (.ins C dx [(f, v)])) : H1 t = some (.ins C dx [(f, v)]) := a t _ h (by intro _ z; cases z) (by intro _ _ _ z; rw [← (HO.ins.inj z).2.2]; exact (by decide : 1 < 2))
theorem SrcAt.kt {H H' : Hp} {a : Addr} {o : KVs} (s : SrcAt K H a o) (k : KT H H') : SrcAt K H' a o := by
  obtain ⟨⟨dy, g, h1, h2⟩, ok⟩ := s
  exact ⟨⟨dy, g, k.ins h1, k.dK h2⟩, ok⟩
theorem ProjAt.kt {H H' : Hp} {p : Addr} {ks : KVs} (s : ProjAt K H p ks) (k : KT H H') : ProjAt K H' p ks := by
  obtain ⟨⟨dy, g, h1, h2⟩, nd, ky, ln, sr⟩ := s
  exact ⟨⟨dy, g, k.ins h1, k.dK h2⟩, nd, ky, ln, fun e he => let ⟨a, o, e1, h⟩ := sr e he; ⟨a, o, e1, h.kt k⟩⟩
/-- the past's pairs -/
def ItsAt (K : Fg) (Ψ : KVs → Prop) (H : Hp) (items : List V) : Prop := ∀ v ∈ items, ∃ t d b ks, v = V.ref t ∧ H t = some (.tup [d, .ref b]) ∧ ProjAt K H b ks ∧ Ψ ks
theorem ItsAt.kt {Ψ : KVs → Prop} {H H' : Hp} {items : List V} (a : ItsAt K Ψ H items) (k : KT H H') : ItsAt K Ψ H' items := fun v hv => let ⟨t, d, b, ks, e, h1, h2, h3⟩ := a v hv; ⟨t, d, b, ks, e, k.tup h1, h2.kt k, h3⟩
theorem ItsAt.pairs {Ψ : KVs → Prop} {H : Hp} {items : List V} (a : ItsAt K Ψ H items) : Pairs2 H items := fun v hv => let ⟨t, d, b, _, e, h1, _⟩ := a v hv; ⟨t, d, b, e, h1⟩
abbrev HKs := Hp → KVs → Prop
def StK (Φ : HKs) : Prop := ∀ H H' ks, KT H H' → Φ H ks → Φ H' ks
def JA (K : Fg) (Φ : HKs) (Ψ : KVs → Prop) (lo hi : Nat) (S e L : Addr) (fl : Nat) (H : Hp) : Prop := ∃ cur items ks, SesAt K H S e cur L items fl ∧ ProjAt K H cur ks ∧ Φ H ks ∧ lo ≤ items.length ∧ items.length ≤ hi ∧ ItsAt K Ψ H items
theorem JA.same {Φ : HKs} {Ψ : KVs → Prop} (st : StK Φ) {lo hi fl : Nat} {S e L : Addr} {H H' : Hp} (j : JA K Φ Ψ lo hi S e L fl H) (s : Same H H') : JA K Φ Ψ lo hi S e L fl H' := let ⟨cur, items, ks, h1, h2, h3, h4, h5, h6⟩ := j; ⟨cur, items, ks, h1.same s, h2.same s, st _ _ _ (KT.of_same s) h3, h4, h5, h6.kt (KT.of_same s)⟩
theorem edited_of {Φ' : HKs} {Ψ : KVs → Prop} {lo' hi fl : Nat} {S e cur L : Addr} {items : List V} {ks : KVs} {H : Hp} {P : KVs → V → Hp → Prop} {Q : VK} {v : V} (sa : SesAt K H S e cur L items fl) (pa : ProjAt K H cur ks) (hΨ : Ψ ks) (it : ItsAt K Ψ H items)
    (h1 : ∀ ls d H', Same H H' → P ls d H' → ls.length = ks.length → Φ' H' ks ∧ lo' ≤ items.length) (h2 : ∀ ls d H', P ls d H' → Φ' H' ls) (hlo : lo' ≤ items.length + 1) (hhi : items.length ≤ hi) (q : ∀ H2, JA K Φ' Ψ lo' (hi + 1) S e L fl H2 → Keep S L H H2 → Q v H2) :
    Edited K S e L cur ks items fl H P (fun _ H' => Q v H') := by
  refine ⟨fun H' qq d ls s pq p hl => ?_, fun qq t d ls H' kp nt ht pq p sa' => ?_⟩
  · obtain ⟨a1, a2⟩ := h1 ls d H' s p hl
    exact q H' ⟨cur, items, ks, sa.same s, pa.same s, a1, a2, Nat.le_succ_of_le hhi, it.kt (KT.of_same s)⟩ (Keep.of_same s)
  · have k := KT.of_keep kp sa.big sa.lst
    refine q H' ⟨qq, _, ls, sa', pq, h2 ls d H' p, by rw [List.length_append]; exact hlo, by rw [List.length_append]; exact Nat.succ_le_succ hhi, fun v hv => ?_⟩ kp
    rcases List.mem_append.mp hv with hv | hv
    · exact it.kt k v hv
    · rw [List.mem_singleton.mp hv]
      exact ⟨t, d, cur, ks, rfl, ht, pa.kt k, hΨ⟩
/-- where the ahead deeds leave the project -/
def PhZ (ks : KVs) : Prop := (valV ks (kS "h")).isSome = true ∧ (valV ks (kS "n")).isSome = true ∧ valV ks (kS "w") = none
abbrev PhZh : HKs := fun _ ks => PhZ ks
theorem st0 : StK PhZh := fun _ _ _ _ h => h
theorem PhZ.put {ks : KVs} (h : PhZ ks) {z : Str} (v : V) (hz : z ≠ "w") : PhZ (putK ks (kS z) v) := by
  obtain ⟨h1, h2, h3⟩ := h
  refine ⟨?_, ?_, ?_⟩
  · rw [valV_put]
    split
    · rfl
    · exact h1
  · rw [valV_put]
    split
    · rfl
    · exact h2
  · rw [valV_put, if_neg fun y => hz (Sum.inr.inj y).symm]
    exact h3
/-- a deed of a right kind -/
inductive Simple (K : Fg) (H : Hp) (t : Addr) : Prop where
  | put {s : Addr} {o : KVs} (h : H t = some (.tup [.str "put", .str "a1", .ref s])) (hs : SrcAt K H s o) : Simple K H t
  | write {x z : Str} (h : H t = some (.tup [.str "write", .str "h", .str x, .str z])) (hx : kS x = kO ∨ kS x = kQ) (h1 : x.length ≤ 1000) (h2 : nameB x = true) (h3 : z.length ≤ 1000) (h4 : textB z = true) : Simple K H t
  | erase (h : H t = some (.tup [.str "erase", .str "h", .str "q"])) : Simple K H t
  | ask {k : Addr} (h : H t = some (.tup [.str "ask", .ref k])) (hk : H k = some (.tup [.str "h", .str "o"])) : Simple K H t
  | undo (h : H t = some (.tup [.str "undo"])) : Simple K H t
theorem Simple.kt {H H' : Hp} {t : Addr} (a : Simple K H t) (k : KT H H') : Simple K H' t := by
  cases a with
  | put h hs => exact .put (k.tup h) (hs.kt k)
  | write h hx h1 h2 h3 h4 => exact .write (k.tup h) hx h1 h2 h3 h4
  | erase h => exact .erase (k.tup h)
  | ask h hk => exact .ask (k.tup h) (k.tup hk)
  | undo h => exact .undo (k.tup h)
theorem nmV {H : Hp} {z : Str} (h : z.length ≤ 1000) : NameV K H (.str z) (nameB z) := .inl ⟨z, rfl, h, rfl⟩
theorem txV {H : Hp} {z : Str} (h : z.length ≤ 1000) : TextV K H (.str z) (textB z) := .inl ⟨z, rfl, h, rfl⟩
theorem tgV (T : TX K mg) {H : Hp} {s : Addr} {o : KVs} (hs : SrcAt K H s o) : TgtV K H (.ref s) true := by
  obtain ⟨dx, g, h1, h2⟩ := hs.ins
  exact ⟨_, T.ty_src h1, T.k_st⟩
theorem pk_h : kS "h" ∈ pKeys := .head _
theorem pk_n : kS "n" ∈ pKeys := .tail _ (.head _)
theorem pk_a1 : kS "a1" ∈ pKeys := .tail _ (.tail _ (.head _))
theorem pk_w : kS "w" ∈ pKeys := .tail _ (.tail _ (.tail _ (.head _)))
theorem does_simple (T : TX K mg) {spA : Sp} {S e L t : Addr} {fl hi : Nat} {H : Hp} (sm : Simple K H t) (j : JA K PhZh PhZ fl hi S e L fl H) (hh : hi ≤ 900) {Q : VK} {E : XK}
    (q : ∀ v H2, JA K PhZh PhZ fl (hi + 1) S e L fl H2 → Keep S L H H2 → Q v H2) : spDo K spA [.ref S, .ref t] H Q E := by
  obtain ⟨cur, items, ks, sa, pa, ph, hlo, hhi, it⟩ := j
  obtain ⟨dx, hS⟩ := sa.ins
  have hz : items.length ≤ 1000 := by omega
  cases sm with
  | put h hs =>
    refine ⟨S, t, _, rfl, h, ⟨dx, _, hS, rfl⟩, .inr (.inl ⟨"put", _, rfl, .put (nmV (by decide)) (tgV T hs), fun H1 s1 => ⟨S, t, rfl, .inl ⟨"a1", _, SqT.of (s1 _ _ h), S, e, cur, L, _, items, fl, ks, _, _, rfl, sa.same s1, pa.same s1, hz, pk_a1, hs.same s1, ?_⟩⟩⟩)⟩
    exact edited_of (Φ' := PhZh) (Ψ := PhZ) (sa.same s1) (pa.same s1) ph (it.kt (KT.of_same s1)) (fun ls d H' _ p hl => ⟨ph, hlo⟩) (fun ls d H' p => by rw [p]; exact ph.put _ (by decide)) (by omega) hhi fun H2 j2 kp => q _ H2 j2 ((Keep.of_same s1).trans kp)
  | write h hx h1 h2 h3 h4 =>
    refine ⟨S, t, _, rfl, h, ⟨dx, _, hS, rfl⟩, .inr (.inl ⟨"write", _, rfl, ?_, fun H1 s1 => ⟨S, t, rfl, .inr (.inr (.inl ⟨"h", _, _, SqT.of (s1 _ _ h), S, e, cur, L, items, fl, ks, _, _, _, rfl, sa.same s1, pa.same s1, hz, pk_h, hx, ?_⟩))⟩⟩)⟩
    · have y := EditR.write (K := K) (H := H) (nmV (by decide : ("h" : Str).length ≤ 1000)) (nmV h1) (txV h3)
      rw [h2, h4] at y
      exact y
    · exact edited_of (Φ' := PhZh) (Ψ := PhZ) (sa.same s1) (pa.same s1) ph (it.kt (KT.of_same s1)) (fun ls d H' _ p hl => ⟨ph, hlo⟩) (fun ls d H' p => by obtain ⟨⟨s', e', _⟩, _⟩ := p; rw [e']; exact ph.put _ (by decide)) (by omega) hhi fun H2 j2 kp => q _ H2 j2 ((Keep.of_same s1).trans kp)
  | erase h =>
    refine ⟨S, t, _, rfl, h, ⟨dx, _, hS, rfl⟩, .inr (.inl ⟨"erase", _, rfl, .erase (nmV (by decide)) (nmV (by decide)), fun H1 s1 => ⟨S, t, rfl, .inr (.inr (.inr ⟨"h", _, SqT.of (s1 _ _ h), S, e, cur, L, items, fl, ks, _, _, rfl, sa.same s1, pa.same s1, hz, pk_h, ph.1, ?_⟩))⟩⟩)⟩
    exact edited_of (Φ' := PhZh) (Ψ := PhZ) (sa.same s1) (pa.same s1) ph (it.kt (KT.of_same s1)) (fun ls d H' _ p hl => ⟨ph, hlo⟩) (fun ls d H' p => by obtain ⟨s', e'⟩ := p; rw [e']; exact ph.put _ (by decide)) (by omega) hhi fun H2 j2 kp => q _ H2 j2 ((Keep.of_same s1).trans kp)
  | ask h hk =>
    refine ⟨S, t, _, rfl, h, ⟨dx, _, hS, rfl⟩, .inr (.inr (.inl ⟨_, rfl, ?_, fun H1 s1 => ⟨S, e, cur, L, _, items, fl, _, _, ks, rfl, sa.same s1, pa.same s1, s1 _ _ hk, fun v H2 s2 => ?_⟩⟩))⟩
    · exact .inr ⟨_, _, rfl, SqT.of hk, .base (.tup hk), .inr ⟨_, _, _, _, rfl, nmV (by decide), nmV (by decide), rfl⟩⟩
    · have s3 := s1.trans s2
      exact q v H2 ⟨cur, items, ks, sa.same s3, pa.same s3, ph, hlo, Nat.le_succ_of_le hhi, it.kt (KT.of_same s3)⟩ (Keep.of_same s3)
  | undo h =>
    refine ⟨S, t, _, rfl, h, ⟨dx, _, hS, rfl⟩, .inr (.inr (.inr (.inl ⟨rfl, fun H1 s1 => ⟨S, e, cur, L, items, fl, rfl, sa.same s1, (it.kt (KT.of_same s1)).pairs, hlo, hz, fun _ => ?_, fun its t d b H2 ei ht hl kp sb => ?_⟩⟩)))⟩
    · exact q _ H1 ⟨cur, items, ks, sa.same s1, pa.same s1, ph, hlo, Nat.le_succ_of_le hhi, it.kt (KT.of_same s1)⟩ (Keep.of_same s1)
    · subst ei
      have k2 := (KT.of_same s1).trans (KT.of_keep kp (sa.same s1).big (sa.same s1).lst)
      obtain ⟨t2, d2, b2, ls, e1, h1, h2, h3⟩ := it _ (List.mem_append_right _ List.mem_cons_self)
      cases e1
      rw [s1 _ _ h1] at ht
      cases ht
      exact q _ H2 ⟨_, its, ls, sb, h2.kt k2, h3, hl, by rw [List.length_append] at hhi; exact Nat.le_succ_of_le (Nat.le_trans (Nat.le_succ _) hhi), fun v hv => it.kt k2 v (List.mem_append_left _ hv)⟩ ((Keep.of_same s1).trans kp)
end
end K98
/-! K98Go -/
set_option Elab.async false
set_option linter.all false
set_option maxRecDepth 100000
set_option maxHeartbeats 1000000
/-! an attempt over deeds of which the ones ahead are right -/
namespace K98
open PySem PySem.Spec PyProof.Rows L2
section
variable {w : World} {K : Fg} {mg : Str → Option Value} {base : Heap}
theorem Keep.of_but {S L : Addr} {H H1 : Hp} (b : But S H H1) : Keep S L H H1 := fun c o h1 _ h => b c o h1 h
/-- a Failed(p) in the air behind calls on the session -/
def RZ (K : Fg) (S e L : Addr) (H : Hp) (p : List V) : XK := fun cls d H2 => cls = .ref (cFail K) ∧ ∃ dd pt, d = some dd ∧ H2 dd = some (.xd [(("path" : Str), .ref pt)]) ∧ H2 pt = some (.tup p) ∧ Keep S L H H2 ∧ ∃ dx c2 L2 n2, H2 S = some (.ins (cSes K) dx (sesF e c2 L2 n2))
theorem SesAt.engNe {H : Hp} {S e cur L : Addr} {items : List V} {fl : Nat} (a : SesAt K H S e cur L items fl) : e ≠ S ∧ e ≠ L ∧ L ≠ S := by
  obtain ⟨dx, h1⟩ := a.ins
  obtain ⟨de, wv, rv, tk, rn, e1, e2, e3⟩ := a.eng
  refine ⟨ne_of e1 h1 ?_, ne_of e1 a.lst (by intro z; cases z), ne_of a.lst h1 (by intro z; cases z)⟩
  intro z
  have z2 := congrArg List.length (HO.ins.inj z).2.2
  exact absurd z2 (by show ¬ (5 = 4); decide)
theorem JA.but_r {Φ : HKs} {Ψ : KVs → Prop} {lo hi fl fl0 : Nat} {S e L r cur0 : Addr} {its0 xs : List V} {Hc H1 H2 : Hp} (st : StK Φ) (j : JA K Φ Ψ lo hi S e L fl H1) (kp : Keep S L Hc H1) (sc : SesAt K Hc S e cur0 L its0 fl0) (nr : Hc r = none) (hl : H1 r = some (.lst xs)) (b : But r H1 H2) :
    JA K Φ Ψ lo hi S e L fl H2 := by
  obtain ⟨cur, items, ks, sa, pa, ph, hlo, hhi, it⟩ := j
  have k := KT.of_but b hl
  obtain ⟨dx, h1⟩ := sa.ins
  obtain ⟨n1, n2, n3⟩ := sc.engNe
  obtain ⟨dx0, h0⟩ := sc.ins
  obtain ⟨de, wv, rv, tk, rn, e1, e2, e3⟩ := sc.eng
  refine ⟨cur, items, ks, ⟨⟨dx, b S _ (ne_of h1 hl (by intro z; cases z)) h1⟩, b L _ (ne_of_none sc.lst nr) sa.lst, de, wv, rv, tk, rn, b e _ (ne_of_none e1 nr) (kp e _ n1 n2 e1), b tk _ (ne_of_none e2 nr) (kp tk _ (ne_of e2 h0 (by intro z; cases z)) e3 e2), e3⟩, pa.kt k, st _ _ _ k ph, hlo, hhi, it.kt k⟩
theorem att_mk {spA : Sp} {Φ : Nat → HKs} {Ψ : Nat → KVs → Prop} {lo hi : Nat → Nat} {S A e cur L : Addr} {items ts : List V} {fl stop : Nat} {H : Hp} {Q : VK} {E : XK} (hA : LT H A ts) (nL : A ≠ L) (hz : ts.length ≤ 1000) (sa : SesAt K H S e cur L items fl) (hi0 : items.length ≤ 1000) (st : ∀ i, StK (Φ i))
    (h0 : ∀ H1, But S H H1 → SesAt K H1 S e cur L items items.length → JA K (Φ 0) (Ψ 0) (lo 0) (hi 0) S e L items.length H1)
    (good : ∀ i x, i < stop → ts[i]? = some x → ∃ t, x = .ref t ∧ ∀ H1, KT H H1 → Keep S L H H1 → JA K (Φ i) (Ψ i) (lo i) (hi i) S e L items.length H1 → ∀ (Q' : VK) (E' : XK), (∀ v H2, JA K (Φ (i + 1)) (Ψ (i + 1)) (lo (i + 1)) (hi (i + 1)) S e L items.length H2 → Keep S L H1 H2 → Q' v H2) → spDo K spA [.ref S, .ref t] H1 Q' E')
    (last : ∀ x, ts[stop]? = some x → ∃ t p, x = .ref t ∧ p.length ≤ 900 ∧ (∀ H1, KT H H1 → Keep S L H H1 → JA K (Φ stop) (Ψ stop) (lo stop) (hi stop) S e L items.length H1 → ∀ (Q' : VK) (E' : XK), (∀ cls d H2, RZ K S e L H1 p cls d H2 → E' cls d H2) → spDo K spA [.ref S, .ref t] H1 Q' E') ∧
      ∀ d pt P H3, H3 d = some (.xd [(("path" : Str), .ref pt)]) → H3 pt = some (.tup (.int stop :: p)) → Keep S L H H3 → H P = none → SesAt K H3 S e cur P items fl → E (.ref (cFail K)) (some d) H3)
    (fin : ts.length ≤ stop → ∀ r H3, JA K (Φ ts.length) (Ψ ts.length) (lo ts.length) (hi ts.length) S e L fl H3 → Keep S L H H3 → Q (.ref r) H3) :
    spAtt K (spDD K (spDo K spA)) [.ref S, .ref A, .bl true] H Q E := by
  obtain ⟨dx, hS⟩ := sa.ins
  refine ⟨S, A, e, cur, L, items, fl, rfl, sa, hi0, fun P H1 b1 nP hP s1 Q' E' hQ hE => ?_⟩
  have nS : A ≠ S := by
    rcases hA with h | h
    · exact ne_of h hS (by intro z; cases z)
    · exact ne_of h hS (by intro z; cases z)
  have hA1 : LT H1 A ts := by
    rcases hA with h | h
    · exact .inl (b1 A _ nS h)
    · exact .inr (b1 A _ nS h)
  have kt1 : KT H H1 := KT.of_butS b1 sa.big
  have kp1 : Keep S L H H1 := Keep.of_but b1
  obtain ⟨dx1, hS1⟩ := s1.ins
  have PL : P ≠ L := by
    intro z
    rw [z, sa.lst] at nP
    cases nP
  have PS : P ≠ S := by
    intro z
    rw [z, hS] at nP
    cases nP
  refine ⟨S, A, L, ts, fun i H2 => i ≤ stop ∧ Keep S L H1 H2 ∧ JA K (Φ i) (Ψ i) (lo i) (hi i) S e L items.length H2, rfl, hA1, hz, nS, nL, ⟨_, _, hS1⟩, ⟨_, s1.lst⟩, fun i H2 j => ?_, ⟨Nat.zero_le _, Keep.of_same (Same.refl _), h0 H1 b1 s1⟩, fun r i H2 H3 nr hl j b => ?_, fun i H2 H3 j s => ⟨j.1, j.2.1.trans (Keep.of_same s), j.2.2.same (st i) s⟩, fun i x H2 hx j kp Q2 E2 hQ2 hE2 => ?_, fun r xs H2 j kp hr => ?_⟩
  · obtain ⟨_, _, cur2, items2, ks, sb, _⟩ := j
    obtain ⟨dx2, h2⟩ := sb.ins
    exact ⟨_, _, h2, rfl⟩
  · obtain ⟨j1, j2, j3⟩ := j
    obtain ⟨ys, hl⟩ := hl
    refine ⟨j1, fun c o h1 h2 h => b c o (ne_of_none h nr) (j2 c o h1 h2 h), JA.but_r (st i) j3 j2 s1 nr hl b⟩
  · obtain ⟨j1, j2, j3⟩ := j
    have kt2 : KT H H2 := kt1.trans (KT.of_keep kp s1.big s1.lst)
    have kp2 := kp1.trans kp
    rcases Nat.lt_or_eq_of_le j1 with c | rfl
    · obtain ⟨t, rfl, run⟩ := good i x c hx
      exact run H2 kt2 kp2 j3 Q2 E2 fun v H4 j4 k4 => hQ2 v H4 ⟨c, j2.trans k4, j4⟩ k4
    · obtain ⟨t, p, rfl, hp, run, ends⟩ := last x hx
      refine run H2 kt2 kp2 j3 Q2 E2 fun cls d H4 z => hE2 cls d H4 ?_
      obtain ⟨rfl, dd, pt, rfl, hdd, hpt, k4, dx2, c2, L2, n2, h4⟩ := z
      refine ⟨rfl, dd, pt, p, rfl, hdd, hpt, by omega, fun d2 pt2 H5 s5 nd2 hd2 hp2 => hE _ _ _ ⟨dx2, c2, L2, n2, s5 _ _ h4, fun H6 b6 h6 => ?_⟩⟩
      have h5 := s5 _ _ h4
      have k6 : Keep S L H1 H6 := (kp.trans k4).trans ((Keep.of_same s5).trans (Keep.of_but b6))
      obtain ⟨n1, n3, n4⟩ := s1.engNe
      obtain ⟨de, wv, rv, tk, rn, e1, e2, e3⟩ := s1.eng
      obtain ⟨_, _, _, tk0, _, e10, e20, e30⟩ := sa.eng
      refine ends d2 pt2 P H6 (b6 d2 _ (ne_of hd2 h5 (by intro z; cases z)) hd2) (b6 pt2 _ (ne_of hp2 h5 (by intro z; cases z)) hp2) (kp1.trans k6) nP ⟨⟨dx2, h6⟩, k6 P _ PS PL hP, ?_⟩
      obtain ⟨m1, m2, m3⟩ := sa.engNe
      have k7 := kp1.trans k6
      exact ⟨_, _, _, tk0, _, k7 e _ m1 m2 e10, k7 tk0 _ (ne_of e20 hS (by intro z; cases z)) e30 e20, ne_of_none e20 nP⟩
  · obtain ⟨j1, j2, cur2, items2, ks, sb, pa, ph, hlo, hhi, it⟩ := j
    refine hQ _ _ ⟨cur2, items2, sb, fun H3 b3 s3 => ?_⟩
    have k3 := KT.of_butS b3 sb.big
    exact fin j1 r H3 ⟨cur2, items2, ks, s3, pa.kt k3, st _ _ _ _ k3 ph, hlo, hhi, it.kt k3⟩ ((kp1.trans kp).trans (Keep.of_but b3))
end
end K98
/-! K98Bad -/
set_option Elab.async false
set_option linter.all false
set_option maxRecDepth 100000
set_option maxHeartbeats 1000000
/-! right deeds ahead of one that is wrong -/
namespace K98
open PySem PySem.Spec PyProof.Rows L2
section
variable {w : World} {K : Fg} {mg : Str → Option Value} {base : Heap}
theorem kLT {t : String} {r r1 : Bool} (h1 : kitB t "list" = some r1) (h2 : r1 = false → kitB t "tuple" = some r) (h3 : r1 = true → r = true) : PySem.W.kitAny K (.type t) [.type "list", .type "tuple"] = some r :=
  kitAny_cons (kit_ty h1) (fun e => by
    unfold PySem.W.kitAny
    rw [kit_ty (K := K) (h2 e)]
    cases r with
    | true => rfl
    | false => rfl) h3
theorem kLT_tup : PySem.W.kitAny K (.type "tuple") [.type "list", .type "tuple"] = some true := kLT (r1 := false) (by decide +kernel) (fun _ => by decide +kernel) (by intro z; cases z)
theorem kLT_lst : PySem.W.kitAny K (.type "list") [.type "list", .type "tuple"] = some true := kLT (r1 := true) (by decide +kernel) (by intro z; cases z) (fun _ => rfl)
theorem JA.weak {Φ : HKs} {Ψ : KVs → Prop} {lo lo' hi hi' fl : Nat} {S e L : Addr} {H : Hp} (j : JA K Φ Ψ lo hi S e L fl H) (h1 : lo' ≤ lo) (h2 : hi ≤ hi') : JA K Φ Ψ lo' hi' S e L fl H :=
  let ⟨cur, items, ks, a1, a2, a3, a4, a5, a6⟩ := j; ⟨cur, items, ks, a1, a2, a3, Nat.le_trans h1 a4, Nat.le_trans a5 h2, a6⟩
/-- a right deed of those ahead -/
def Good (K : Fg) (H : Hp) (t : Addr) : Prop := Simple K H t ∨ ∃ A u, H t = some (.tup [.str "attempt", .ref A]) ∧ H A = some (.tup [.ref u]) ∧ Simple K H u
theorem Good.kt {H H' : Hp} {t : Addr} (g : Good K H t) (k : KT H H') : Good K H' t := by
  rcases g with g | ⟨A, u, h1, h2, g⟩
  · exact .inl (g.kt k)
  · exact .inr ⟨A, u, k.tup h1, k.tup h2, g.kt k⟩
theorem tyTup {H : Hp} {A : Addr} {ts : List V} (h : H A = some (.tup ts)) : TyX K H (.ref A) (.type "tuple") := .base (.tup h)
theorem tyLst {H : Hp} {A : Addr} {ts : List V} (h : H A = some (.lst ts)) : TyX K H (.ref A) (.type "list") := .base (.lst h)
theorem does_good (T : TX K mg) {n : Nat} {S e L t : Addr} {fl hi : Nat} {H : Hp} (g : Good K H t) (j : JA K PhZh PhZ fl hi S e L fl H) (hh : hi ≤ 890) {Q : VK} {E : XK}
    (q : ∀ v H2, JA K PhZh PhZ fl (hi + 1) S e L fl H2 → Keep S L H H2 → Q v H2) : spDo K (spAttN K (n + 1)) [.ref S, .ref t] H Q E := by
  rcases g with g | ⟨A, u, h1, h2, g⟩
  · exact does_simple T g j (by omega) q
  · obtain ⟨cur, items, ks, sa, pa, ph, hlo, hhi, it⟩ := j
    obtain ⟨dx, hS⟩ := sa.ins
    refine ⟨S, t, _, rfl, h1, ⟨dx, _, hS, rfl⟩, .inr (.inr (.inr (.inr ⟨A, .type "tuple", rfl, tyTup h2, kLT_tup, fun H1 s1 => ?_⟩)))⟩
    have k1 := KT.of_same s1
    refine att_mk (ts := [.ref u]) (stop := 1) (Φ := fun _ => PhZh) (Ψ := fun _ => PhZ) (lo := fun _ => items.length) (hi := fun i => hi + i) (.inr (s1 _ _ h2)) (ne_of (s1 _ _ h2) (s1 _ _ sa.lst) (by intro z; cases z)) (Nat.le_trans (by decide : 1 ≤ 1000) (Nat.le_refl _)) (sa.same s1) (by omega) (fun _ => st0)
      (fun H2 b2 s2 => ?_) (fun i x hi hx => ?_) (fun x hx => ?_) (fun _ r H3 j3 kp => ?_)
    · have k2 := k1.trans (KT.of_butS b2 (sa.same s1).big)
      exact ⟨cur, items, ks, s2, pa.kt k2, ph, Nat.le_refl _, hhi, it.kt k2⟩
    · obtain rfl : i = 0 := by omega
      refine ⟨u, (Option.some.inj hx).symm, fun H2 k2 _ j2 Q' E' hQ => ?_⟩
      exact does_simple T (g.kt (k1.trans k2)) j2 (by omega) hQ
    · cases hx
    · exact q _ H3 (j3.weak hlo (Nat.le_refl _)) ((Keep.of_same s1).trans kp)
/-- lists but those of av stay -/
def KK (av : List Addr) (H H' : Hp) : Prop := KT H H' ∧ ∀ A ts, A ∉ av → H A = some (.lst ts) → H' A = some (.lst ts)
theorem KK.trans {av : List Addr} {H H1 H2 : Hp} (a : KK av H H1) (b : KK av H1 H2) : KK av H H2 := ⟨a.1.trans b.1, fun A ts n h => b.2 A ts n (a.2 A ts n h)⟩
theorem KK.of_same {av : List Addr} {H H1 : Hp} (a : Same H H1) : KK av H H1 := ⟨KT.of_same a, fun A ts _ h => a A _ h⟩
theorem KK.of_but {av : List Addr} {f : Addr} {xs : List V} {H H1 : Hp} (a : But f H H1) (hf : H f = some (.lst xs)) (m : f ∈ av) : KK av H H1 := ⟨KT.of_but a hf, fun A ts n h => a A _ (fun z => n (z ▸ m)) h⟩
theorem KK.of_keep {av : List Addr} {S L : Addr} {xs : List V} {H H1 : Hp} (a : Keep S L H H1) (hS : Big H S) (hL : H L = some (.lst xs)) (m : L ∈ av) : KK av H H1 := ⟨KT.of_keep a hS hL, fun A ts n h => a A _ (by
    obtain ⟨C, dx, fs, hS, _⟩ := hS
    exact ne_of h hS (by intro z; cases z)) (fun z => n (z ▸ m)) h⟩
theorem LT.kk {av : List Addr} {H H1 : Hp} {A : Addr} {ts : List V} (h : LT H A ts) (n : A ∉ av) (k : KK av H H1) : LT H1 A ts := by
  rcases h with h | h
  · exact .inl (k.2 A ts n h)
  · exact .inr (k.1.tup h)
def BadLs (K : Fg) (av : List Addr) (BD : Hp → Addr → List V → Prop) (H : Hp) (A : Addr) (p : List V) : Prop := ∃ (ts : List V) (pre : Nat) (t : Addr) (p' : List V), LT H A ts ∧ A ∉ av ∧ ts.length ≤ 100 ∧ pre ≤ 2 ∧ (∀ i x, i < pre → ts[i]? = some x → ∃ u, x = .ref u ∧ Good K H u) ∧
  ts[pre]? = some (.ref t) ∧ BD H t p' ∧ p = .int pre :: p' ∧ p'.length ≤ 100
def BadDd (K : Fg) (av : List Addr) : Nat → Hp → Addr → List V → Prop
  | 0 => fun H t p => p = [] ∧ ∃ xs, H t = some (.tup xs) ∧ ∀ H', KT H H' → BadDeed K H' xs
  | n + 1 => fun H t p => ∃ A, H t = some (.tup [.str "attempt", .ref A]) ∧ BadLs K av (BadDd K av n) H A p
theorem BadLs.kk {av : List Addr} {BD : Hp → Addr → List V → Prop} {H H1 : Hp} {A : Addr} {p : List V} (k : KK av H H1) (st : ∀ t p, BD H t p → BD H1 t p) (b : BadLs K av BD H A p) : BadLs K av BD H1 A p := by
  obtain ⟨ts, pre, t, p', h1, h2, h3, h4, h5, h6, h7, h8, h9⟩ := b
  exact ⟨ts, pre, t, p', h1.kk h2 k, h2, h3, h4, fun i x hi hx => let ⟨u, e, g⟩ := h5 i x hi hx; ⟨u, e, g.kt k.1⟩, h6, st _ _ h7, h8, h9⟩
theorem BadDd.kk {av : List Addr} {H H1 : Hp} (k : KK av H H1) : ∀ (n : Nat) (t : Addr) (p : List V), BadDd K av n H t p → BadDd K av n H1 t p
  | 0, t, p, b => by
    obtain ⟨e, xs, h, hb⟩ := b
    exact ⟨e, xs, k.1.tup h, fun H' k' => hb H' (k.1.trans k')⟩
  | n + 1, t, p, b => by
    obtain ⟨A, h, hb⟩ := b
    exact ⟨A, k.1.tup h, hb.kk k (BadDd.kk k n)⟩
theorem ls_fails (T : TX K mg) {av : List Addr} {n m : Nat} (ih : ∀ {S e L t : Addr} {fl hi : Nat} {H : Hp} {p : List V}, BadDd K av n H t p → L ∈ av → JA K PhZh PhZ fl hi S e L fl H → hi + 3 * n ≤ 500 → ∀ {Q : VK} {E : XK}, (∀ cls d H2, RZ K S e L H p cls d H2 → E cls d H2) → spDo K (spAttN K (m + 1)) [.ref S, .ref t] H Q E)
    {S e L A cur : Addr} {fl hi : Nat} {H : Hp} {p : List V} {items : List V} {ks : KVs} (b : BadLs K av (BadDd K av n) H A p) (mL : L ∈ av) (sa : SesAt K H S e cur L items fl) (pa : ProjAt K H cur ks) (ph : PhZ ks) (hhi : items.length ≤ hi) (it : ItsAt K PhZ H items) (hh : hi + 3 * (n + 1) ≤ 500) {Q : VK} {E : XK}
    (q : ∀ d pt P H3, H3 d = some (.xd [(("path" : Str), .ref pt)]) → H3 pt = some (.tup p) → Keep S L H H3 → H P = none → SesAt K H3 S e cur P items fl → E (.ref (cFail K)) (some d) H3) : spAttN K (m + 2) [.ref S, .ref A, .bl true] H Q E := by
  obtain ⟨ts, pre, t, p', h1, h2, h3, h4, h5, h6, h7, rfl, h9⟩ := b
  refine att_mk (ts := ts) (stop := pre) (Φ := fun _ => PhZh) (Ψ := fun _ => PhZ) (lo := fun _ => items.length) (hi := fun i => hi + i) h1 (fun z => h2 (z ▸ mL)) (by omega) sa (by omega) (fun _ => st0)
    (fun H2 b2 s2 => ?_) (fun i x hi hx => ?_) (fun x hx => ?_) (fun hl => ?_)
  · have k2 := KT.of_butS b2 sa.big
    exact ⟨cur, items, ks, s2, pa.kt k2, ph, Nat.le_refl _, hhi, it.kt k2⟩
  · obtain ⟨u, rfl, g⟩ := h5 i x hi hx
    exact ⟨u, rfl, fun H2 k2 _ j2 Q' E' hQ => does_good T (g.kt k2) j2 (by omega) hQ⟩
  · rw [h6] at hx
    obtain rfl := Option.some.inj hx
    exact ⟨t, p', rfl, by omega, fun H2 k2 kp2 j2 Q' E' hE => ih (BadDd.kk (KK.of_keep kp2 sa.big sa.lst mL) n t p' h7) mL j2 (by omega) hE, fun d pt P H3 a1 a2 a3 a0 a4 => q d pt P H3 a1 a2 a3 a0 a4⟩
  · have hlt : pre < ts.length := by
      rcases Nat.lt_or_ge pre ts.length with c | c
      · exact c
      · rw [List.getElem?_eq_none c] at h6
        cases h6
    omega
theorem dd_fails (T : TX K mg) {av : List Addr} : ∀ (n m : Nat), n ≤ m → ∀ {S e L t : Addr} {fl hi : Nat} {H : Hp} {p : List V}, BadDd K av n H t p → L ∈ av → JA K PhZh PhZ fl hi S e L fl H → hi + 3 * n ≤ 500 → ∀ {Q : VK} {E : XK}, (∀ cls d H2, RZ K S e L H p cls d H2 → E cls d H2) → spDo K (spAttN K (m + 1)) [.ref S, .ref t] H Q E
  | 0, m, _, S, e, L, t, fl, hi, H, p, b, mL, j, hh, Q, E, q => by
    obtain ⟨rfl, xs, h, hb⟩ := b
    obtain ⟨cur, items, ks, sa, _⟩ := j
    obtain ⟨dx, hS⟩ := sa.ins
    exact ⟨S, t, xs, rfl, h, ⟨dx, _, hS, rfl⟩, .inl ⟨hb H KT.refl, fun d pt H' s nd hd hp => q _ _ _ ⟨rfl, d, pt, rfl, hd, hp, Keep.of_same s, dx, cur, L, fl, s _ _ hS⟩⟩⟩
  | n + 1, 0, hle, _, _, _, _, _, _, _, _, _, _, _, _, _, _, _ => absurd hle (Nat.not_succ_le_zero n)
  | n + 1, m + 1, hle, S, e, L, t, fl, hi, H, p, b, mL, j, hh, Q, E, q => by
    obtain ⟨A, h, hb⟩ := b
    obtain ⟨cur, items, ks, sa, pa, ph, hlo, hhi, it⟩ := j
    obtain ⟨dx, hS⟩ := sa.ins
    have ht : ∃ u, TyX K H (.ref A) u ∧ PySem.W.kitAny K u [.type "list", .type "tuple"] = some true := by
      obtain ⟨ts, _, _, _, hA, _⟩ := id hb
      rcases hA with hA | hA
      · exact ⟨_, tyLst hA, kLT_lst⟩
      · exact ⟨_, tyTup hA, kLT_tup⟩
    obtain ⟨u, hu1, hu2⟩ := ht
    refine ⟨S, t, _, rfl, h, ⟨dx, _, hS, rfl⟩, .inr (.inr (.inr (.inr ⟨A, u, rfl, hu1, hu2, fun H1 s1 => ?_⟩)))⟩
    have k1 := KT.of_same s1
    refine ls_fails T (n := n) (m := m) (hi := hi) (dd_fails T n m (Nat.le_of_succ_le_succ hle)) (hb.kk (KK.of_same s1) (BadDd.kk (KK.of_same s1) n)) mL (sa.same s1) (pa.same s1) ph hhi (it.kt k1) (by omega) fun d pt P H3 a1 a2 a3 _ a4 => ?_
    obtain ⟨dx3, h3⟩ := a4.ins
    exact q _ _ _ ⟨rfl, d, pt, rfl, a1, a2, (Keep.of_same s1).trans a3, dx3, cur, P, fl, h3⟩
end
end K98
/-! K98Feed -/
set_option Elab.async false
set_option linter.all false
set_option maxRecDepth 100000
set_option maxHeartbeats 1000000
/-! the law's feed -/
namespace K98
open PySem PySem.Spec PyProof.Rows L2
section
variable {w : World} {K : Fg} {mg : Str → Option Value} {base : Heap}
/-- the feed's list -/
def FeedAt (H : Hp) (f : Addr) : Prop := ∃ a b : Int, H f = some (.lst [.int a, .int b])
def spFeedOf (K : Fg) : Sp := fun vs H Q _ => ∃ (s : Addr) (k : Nat) (xs : List V), vs = [.ref s, .int k] ∧ SqL K H s xs ∧ (∀ v ∈ xs, ∃ i : Int, v = .int i) ∧ ∀ r a b, H r = none → Q (.ref r) (upd H r (.lst [.int a, .int b]))
theorem iteB {c : Bool} {A B : Prop} (h1 : A) (h2 : B) : if c = true then A else B := by
  cases c with
  | true => exact h1
  | false => exact h2
theorem p1000003 : (0 : Int) < 1000003 := by decide
theorem pBig : (0 : Int) < 2147483647 := by decide
def tFeed1 : TS := tSeq (tAsg (tIf (tTest (tOp (rI0 fun i j => V.bl (decide (j ≤ i))) (tVar 2) (tOp (rI CPow fun i j => V.int (i ^ j.toNat)) (tC (V.int 10)) (tC (V.int 18))))) (tVar 2) (tC (V.int 0))) (gName 3))
  (tRet (tLst (tCons (tVar 3) (tCons (tOp (rI0 fun i j => V.int (i + j)) (tOp (rI0 fun i j => V.int (i + j)) (tOp (rI (fun _ j => 0 < j) fun i j => V.int (i % j)) (tVar 2) (tC (V.int 1000003))) (tOp (rI CMul fun i j => V.int (i * j)) (tC (V.int 11)) (tVar 1))) (tC (V.int 1))) tNil))))
theorem cmI {a b : Int} (h1 : -(2 ^ 64) < a) (h2 : a < 2 ^ 64) : CMul a b := .inl ⟨h1, h2⟩
theorem feed1 {D : Ends} {x y v : Option V} {k c : Int} {H : Hp} (q : ∀ r a b, H r = none → D.rt (.ref r) (upd H r (.lst [.int a, .int b]))) (hy : y = some (.int k)) : tFeed1 D [x, y, some (.int c), v] H := by
  subst hy
  refine ⟨_, rfl, _, _, rfl, rfl, (⟨by decide, by decide, by decide⟩ : CPow 10 18), _, _, rfl, rfl, _, rfl, ?_⟩
  refine iteB ?_ ?_
  · exact ⟨_, rfl, _, rfl, _, rfl, _, _, rfl, rfl, p1000003, _, rfl, _, _, rfl, rfl, cmI (by decide) (by decide), _, _, rfl, rfl, _, _, rfl, rfl, Nat.le_trans (by decide : 2 ≤ 1001) small_line', fun r hr => q r _ _ hr⟩
  · exact ⟨_, rfl, _, rfl, _, _, rfl, rfl, p1000003, _, rfl, _, _, rfl, rfl, cmI (by decide) (by decide), _, _, rfl, rfl, _, _, rfl, rfl, Nat.le_trans (by decide : 2 ≤ 1001) small_line', fun r hr => q r _ _ hr⟩
def tFeed2 : TS := tSeq (tIfS (tTest (tOp (rI0 fun i j => V.bl (decide (i < j))) (tVar 2) (tC (V.int 0)))) (tAsg (tOp (rI0 fun i j => V.int (i - j)) (tC (V.int 5)) (tOp (rI CMul fun i j => V.int (i * j)) (tC (V.int 7)) (tVar 2))) (gName 2)) tNext) tFeed1
theorem feed2 {D : Ends} {x y v : Option V} {k c : Int} {H : Hp} (q : ∀ r a b, H r = none → D.rt (.ref r) (upd H r (.lst [.int a, .int b]))) (hy : y = some (.int k)) : tFeed2 D [x, y, some (.int c), v] H := by
  refine ⟨_, rfl, _, _, rfl, rfl, _, rfl, ?_⟩
  refine iteB ?_ ?_
  · refine ⟨_, rfl, _, _, rfl, rfl, cmI (by decide) (by decide), _, _, rfl, rfl, ?_⟩
    exact feed1 q hy
  · exact feed1 q hy
theorem ok_feed_of (T : TX K mg) : FnG w K mg base CX0 1 (a_law_feed_of K) P_law_feed_of [] (spFeedOf K) := by
  obtain ⟨fd, F⟩ := T.D_law_feed_of
  refine ⟨fd, [], F.ok sc_law_feed_of (fun vs H Q E h => ?_) (fun cdv A outer s H vs Q E hr h => ?_), F.bindsN fun _ _ _ _ _ _ us hl => match us, hl with | [_, _], _ => rfl, .nil, F.kp⟩
  · obtain ⟨s, k, xs, rfl, _⟩ := h
    rfl
  · obtain ⟨s, k, xs, rfl, hs, hi, q⟩ := h
    refine ⟨_, pss_cons (ps_set (i := 2) sc_law_feed_of.nd rfl (.inl rfl) (pe_op op_add (pe_op op_mul pe_int (pv 1)) pe_int))
      (pss_cons (ps_if (pt_cmpR op_lt (pv 1) (pe_callB call_len_seq (by rfl) T.n_len boot_len (pa_cons (pv 0) pa_nil)) (nomark _)) (pss_one (ps_set (i := 2) sc_law_feed_of.nd rfl (.inl rfl) (pe_ix ix_list (pv 0) (pv 1) (fun _ _ => rfl)))) pss_nil)
      (pss_cons (ps_if (pt_cmpR op_lt (pv 2) pe_int (nomark _)) (pss_one (ps_set (i := 2) sc_law_feed_of.nd rfl (.inl rfl) (pe_op op_sub pe_int (pe_op op_mul pe_int (pv 2))))) pss_nil)
      (pss_cons (ps_set (i := 3) sc_law_feed_of.nd rfl (.inl rfl) (pe_ifExp (pt_cmpR op_ge (pv 2) (pe_op op_pow pe_int pe_int) (nomark _)) (pv 2) pe_int))
      (pss_one (ps_ret (pe_lst (pa_cons (pv 3) (pa_cons (pe_op op_add (pe_op op_add (pe_op op_mod (pv 2) pe_int) (pe_op op_mul pe_int (pv 1))) pe_int) pa_nil)))))))), ?_⟩
    have hx : ∀ (c : Int) (hk : k < xs.length), ∃ c' : Int, atI xs (k : Int) = some (.int c') := fun c hk => by
      obtain ⟨i, ei⟩ := hi xs[k] (List.getElem_mem hk)
      exact ⟨i, atI_nat (by rw [List.getElem?_eq_getElem hk, ei])⟩
    refine ⟨_, rfl, _, _, rfl, rfl, cmI (by decide) (by decide), _, _, rfl, rfl, ?_⟩
    refine ⟨_, rfl, _, rfl, s, xs, rfl, .inl hs, _, _, rfl, rfl, _, rfl, ?_⟩
    have e0 : ((k : Int) < (xs.length : Int)) ↔ k < xs.length := by omega
    generalize (9029 * (k : Int) + 31) = c0
    by_cases c : k < xs.length
    · obtain ⟨c1, hc1⟩ := hx c0 c
      refine iteT2 (decide_eq_true (e0.mpr c)) ⟨_, rfl, _, rfl, s, xs, _, _, rfl, rfl, hs, hc1, ?_⟩
      exact feed2 (D := { nx := fun _ H' => Q .non H', rt := Q }) q rfl
    · refine iteF2 (decide_eq_false fun y => c (e0.mp y)) ?_
      exact feed2 (D := { nx := fun _ H' => Q .non H', rt := Q }) q rfl
def spDraw : Sp := fun vs H Q _ => ∃ (f : Addr) (m : Nat) (a b : Int), vs = [.ref f, .int m] ∧ 0 < m ∧ m < 1000 ∧ H f = some (.lst [.int a, .int b]) ∧ ∀ (d : Nat) a' b', d < m → Q (.int d) (upd H f (.lst [.int a', .int b']))
theorem ok_draw (T : TX K mg) : FnG w K mg base CX0 1 (a_law_draw K) P_law_draw [] spDraw := by
  obtain ⟨fd, F⟩ := T.D_law_draw
  refine ⟨fd, [], F.ok sc_law_draw (fun vs H Q E h => ?_) (fun cdv A outer s H vs Q E hr h => ?_), F.bindsN fun _ _ _ _ _ _ us hl => match us, hl with | [_, _], _ => rfl, .nil, F.kp⟩
  · obtain ⟨f, m, a, b, rfl, _⟩ := h
    rfl
  · obtain ⟨f, m, a, b, rfl, hm, hm2, hf, q⟩ := h
    have hm0 : (0 : Int) < m := by omega
    have cd : ∀ i : Int, CDiv i m := fun i => ⟨hm0, by omega⟩
    have ix : ∀ i : Int, ∃ d : Nat, d < m ∧ i % (m : Int) = d := fun i => by
      have h1 := Int.emod_nonneg i (by omega : (m : Int) ≠ 0)
      have h2 := Int.emod_lt_of_pos i hm0
      exact ⟨(i % (m : Int)).toNat, by omega, by omega⟩
    refine ⟨_, pss_cons (ps_if (pt_cmpR op_gt (pe_ix ix_list (pv 0) pe_int (fun _ _ => rfl)) pe_int (nomark _))
        (pss_cons (ps_set (i := 2) sc_law_draw.nd rfl (.inl rfl) (pe_op op_mod (pe_ix ix_list (pv 0) pe_int (fun _ _ => rfl)) (pv 1)))
        (pss_cons (ps_asg (pe_op op_fdiv (pe_ix ix_list (pv 0) pe_int (fun _ _ => rfl)) (pv 1)) (pg_sub (pv 0) pe_int set_list))
        (pss_one (ps_ret (pv 2))))) pss_nil)
      (pss_cons (ps_asg (pe_op op_mod (pe_op op_add (pe_op op_mul (pe_ix ix_list (pv 0) pe_int (fun _ _ => rfl)) pe_int) pe_int) pe_int) (pg_sub (pv 0) pe_int set_list))
      (pss_one (ps_ret (pe_op op_mod (pe_op op_fdiv (pe_ix ix_list (pv 0) pe_int (fun _ _ => rfl)) pe_int) (pv 1))))), ?_⟩
    have sl : SqL K H f [.int a, .int b] := SqL.of hf
    have a0 : atI ([.int a, .int b] : List V) 0 = some (.int a) := atI_nat (j := 0) rfl
    have a1 : atI ([.int a, .int b] : List V) 1 = some (.int b) := atI_nat (j := 1) rfl
    refine ⟨_, rfl, f, _, _, _, rfl, rfl, sl, a0, _, _, rfl, rfl, _, rfl, ?_⟩
    by_cases c : 0 < a
    · refine iteT2 (decide_eq_true c) ⟨_, rfl, f, _, _, _, rfl, rfl, sl, a0, _, rfl, _, _, rfl, rfl, hm0, ?_⟩
      refine ⟨_, rfl, f, _, _, _, rfl, rfl, sl, a0, _, rfl, _, _, rfl, rfl, cd a, _, rfl, f, _, _, 0, rfl, rfl, hf, rfl, ?_⟩
      obtain ⟨d, hd, ed⟩ := ix a
      refine ⟨_, rfl, ?_⟩
      have z := q d (a / m) b hd
      rw [← ed] at z
      exact z
    · refine iteF2 (decide_eq_false c) ⟨_, rfl, f, _, _, _, rfl, rfl, sl, a1, _, _, rfl, rfl, .inr ⟨by decide, by decide⟩, _, _, rfl, rfl, _, _, rfl, rfl, pBig, _, rfl, f, _, _, 1, rfl, rfl, hf, rfl, ?_⟩
      have b1 : atI (([.int a, .int b] : List V).set 1 (.int ((b * 48271 + 11) % 2147483647))) 1 = some (.int ((b * 48271 + 11) % 2147483647)) := atI_nat (j := 1) rfl
      refine ⟨_, rfl, f, _, _, _, rfl, rfl, SqL.of upd_same, b1, _, _, rfl, rfl, (⟨by decide, by decide⟩ : CDiv _ 127), _, rfl, _, _, rfl, rfl, hm0, ?_⟩
      obtain ⟨d, hd, ed⟩ := ix ((b * 48271 + 11) % 2147483647 / 127)
      have z := q d a ((b * 48271 + 11) % 2147483647) hd
      rw [← ed] at z
      exact z
def spPick (K : Fg) : Sp := fun vs H Q _ => ∃ (f l : Addr) (a b : Int) (xs : List V), vs = [.ref f, .ref l] ∧ H f = some (.lst [.int a, .int b]) ∧ H l = some (.lst xs) ∧ l ≠ f ∧ 0 < xs.length ∧ xs.length < 1000 ∧ ∀ (j : Nat) x a' b', xs[j]? = some x → Q x (upd H f (.lst [.int a', .int b']))
theorem ok_pick (T : TX K mg) : FnG w K mg base CX0 2 (a_law_pick K) P_law_pick [] (spPick K) := by
  obtain ⟨fd, F⟩ := T.D_law_pick
  obtain ⟨fD, dD, GD, bD, vD, kD⟩ := ok_draw (w := w) (base := base) T
  cases vD
  refine ⟨fd, [], F.ok sc_law_pick (fun vs H Q E h => ?_) (fun cdv A outer s H vs Q E hr h => ?_), F.bindsN fun _ _ _ _ _ _ us hl => match us, hl with | [_, _], _ => rfl, .nil, F.kp⟩
  · obtain ⟨f, l, a, b, xs, rfl, _⟩ := h
    rfl
  · obtain ⟨f, l, a, b, xs, rfl, hf, hl, ne, h1, h2, q⟩ := h
    refine ⟨_, pss_one (ps_ret (pe_ix ix_list (pv 1) (pe_call GD hr (by rfl) T.g_law_draw kD bD .nil pass0 (pa_cons (pv 0) (pa_cons (pe_callB call_len_seq (by rfl) T.n_len boot_len (pa_cons (pv 1) pa_nil)) pa_nil))) (fun _ _ => rfl))), ?_⟩
    refine ⟨_, rfl, _, rfl, _, rfl, l, xs, rfl, .inl (SqL.of hl), f, xs.length, a, b, rfl, h1, h2, hf, fun d a' b' hd => ?_⟩
    exact ⟨l, xs, _, xs[d], rfl, rfl, SqL.of (by rw [upd_ne ne]; exact hl), atI_nat (List.getElem?_eq_getElem hd), q d _ _ _ (List.getElem?_eq_getElem hd)⟩
end
end K98
/-! K98Wrong -/
set_option Elab.async false
set_option linter.all false
set_option maxRecDepth 100000
set_option maxHeartbeats 1000000
/-! the law's wrong items -/
namespace K98
open PySem PySem.Spec PyProof.Rows L2
def rMulS : R2 := fun x y H Q => ∃ (z : Str) (n : Int), x = .str z ∧ y = .int n ∧ MulOk z n ∧ Q (.str (Txt.mul z n)) H
theorem op_mulS {X : Cx} : OpR X (binaryOp .Mult) rMulS := by
  intro pins s σ H x y v u Q I rx ry h
  obtain ⟨z, n, rfl, rfl, ok, q⟩ := h
  obtain ⟨t, rfl⟩ := rx
  obtain ⟨t', rfl⟩ := ry
  exact SB.mul ok fun t2 k => ⟨.str (Txt.mul z n), H, I.tok k, ⟨t2, rfl⟩, q⟩
/-- a display's object: what stands at it, its heap not said -/
def tTupA (t : TA) : TE := fun σ H Q => t σ H fun xs H1 => xs.length ≤ 1001 ∧ ∀ p H', H1 p = none → Same H1 H' → H' p = some (.tup xs) → Q (.ref p) H'
def tLstA (t : TA) : TE := fun σ H Q => t σ H fun xs H1 => xs.length ≤ 1001 ∧ ∀ p H', H1 p = none → Same H1 H' → H' p = some (.lst xs) → Q (.ref p) H'
def wide (t : TA) : TA := fun σ H Q => ∃ Q0 : List V → Hp → Prop, (∀ xs H1, Q0 xs H1 → Q xs H1) ∧ t σ H Q0
theorem pa_wide {X : Cx} {es : List Expr} {t : TA} (h : PA X es t) : PA X es (wide t) := ⟨fun pos pins s σ H Q I hq => by
  obtain ⟨Q0, le, q⟩ := hq
  exact wpAny_mono (h.run pos pins s σ H Q0 I q) (fun us s1 ⟨xs, H1, I1, r, q1⟩ => ⟨xs, H1, I1, r, le _ _ q1⟩) fun _ _ x => x⟩
theorem pe_tupA {X : Cx} {es : List Expr} {x1 : Nat} {pos : Pos} {t : TA} (h : PA X es t) : PE X (.Tuple es x1 pos) (tTupA t) := ⟨fun pins s σ H Q I hq =>
  (pe_tup (pa_wide h)).run pins s σ H Q I ⟨_, fun _ _ ⟨h1, h2⟩ => ⟨Nat.le_trans h1 small_line', fun p np => h2 p _ np (snew np) upd_same⟩, hq⟩⟩
theorem pe_lstA {X : Cx} {es : List Expr} {pos : Pos} {t : TA} (h : PA X es t) : PE X (.List es pos) (tLstA t) := ⟨fun pins s σ H Q I hq =>
  (pe_lst (pa_wide h)).run pins s σ H Q I ⟨_, fun _ _ ⟨h1, h2⟩ => ⟨Nat.le_trans h1 small_line', fun p np => h2 p _ np (snew np) upd_same⟩, hq⟩⟩
section
variable {w : World} {K : Fg} {mg : Str → Option Value} {base : Heap}
theorem faC {α : Type} {a : α} {l : List α} {P : α → Prop} (h : P a) (t : ∀ x ∈ l, P x) : ∀ x ∈ a :: l, P x := fun x hx => by
  rcases List.mem_cons.mp hx with e | hx
  · rw [e]; exact h
  · exact t x hx
theorem fn0 {α : Type} {P : α → Prop} : ∀ x ∈ ([] : List α), P x := fun x hx => absurd hx (by simp)
theorem ntNon {H : Hp} {t : String} (h : kitB "NoneType" t = some false) : NotT K H .non t := ⟨.type "NoneType", .base .non, kit_ty h⟩
theorem ntInt {H : Hp} {i : Int} {t : String} (h : kitB "int" t = some false) : NotT K H (.int i) t := ⟨.type "int", .base (.int i), kit_ty h⟩
theorem ntBl {H : Hp} {b : Bool} {t : String} (h : kitB "bool" t = some false) : NotT K H (.bl b) t := ⟨.type "bool", .base (.bl b), kit_ty h⟩
theorem ntStr {H : Hp} {z : Str} {t : String} (h : kitB "str" t = some false) : NotT K H (.str z) t := ⟨.type "str", .base (.str z), kit_ty h⟩
theorem ntTup {H : Hp} {a : Addr} {xs : List V} {t : String} (e : H a = some (.tup xs)) (h : kitB "tuple" t = some false) : NotT K H (.ref a) t := ⟨.type "tuple", tyTup e, kit_ty h⟩
/-- a value that the predicate bars, whatever the session did -/
def Wr (P : Hp → V → Prop) (H : Hp) (x : V) : Prop := ∀ H', KT H H' → P H' x
abbrev PN (K : Fg) : Hp → V → Prop := fun H x => NameV K H x false
abbrev PTx (K : Fg) : Hp → V → Prop := fun H x => TextV K H x false
abbrev PK (K : Fg) : Hp → V → Prop := fun H x => KeyV K H x false
abbrev PTg (K : Fg) : Hp → V → Prop := fun H x => TgtV K H x false
abbrev PD (K : Fg) : Hp → V → Prop := fun H x => ∃ u, TyX K H x u ∧ PySem.W.kitAny K u [.type "list", .type "tuple"] = some false
theorem Wr.kt {P : Hp → V → Prop} {H H1 : Hp} {x : V} (h : Wr P H x) (k : KT H H1) : Wr P H1 x := fun H' k' => h H' (k.trans k')
def WL (P : Hp → V → Prop) (H0 H : Hp) (d : Addr) (c : Str) : Prop := ∃ kvs l xs, H d = some (.dK kvs) ∧ valV kvs (kS c) = some (.ref l) ∧ H l = some (.lst xs) ∧ H0 l = none ∧ 0 < xs.length ∧ xs.length < 1000 ∧ ∀ x ∈ xs, Wr P H x
structure WrongAt (K : Fg) (H0 H : Hp) (d : Addr) : Prop where
  n : WL (PN K) H0 H d "n"
  t : WL (PTx K) H0 H d "t"
  k : WL (PK K) H0 H d "k"
  s : WL (PTg K) H0 H d "s"
  d : WL (PD K) H0 H d "d"
theorem pnS {H : Hp} {z : Str} (h1 : z.length ≤ 1000) (h2 : nameB z = false) : Wr (PN K) H (.str z) := fun _ _ => .inl ⟨z, rfl, h1, h2.symm⟩
theorem ptS {H : Hp} {z : Str} (h1 : z.length ≤ 1000) (h2 : textB z = false) : Wr (PTx K) H (.str z) := fun _ _ => .inl ⟨z, rfl, h1, h2.symm⟩
theorem kB1 : kitB "int" "str" = some false := by decide +kernel
theorem kB2 : kitB "NoneType" "str" = some false := by decide +kernel
theorem kB3 : kitB "bool" "str" = some false := by decide +kernel
theorem kB4 : kitB "tuple" "str" = some false := by decide +kernel
theorem kB5 : kitB "str" "tuple" = some false := by decide +kernel
theorem kB6 : kitB "NoneType" "tuple" = some false := by decide +kernel
theorem pkT {H : Hp} {a : Addr} {xs : List V} (e : H a = some (.tup xs)) (h : xs.length ≠ 2) : Wr (PK K) H (.ref a) := fun H' k => .inr ⟨a, xs, rfl, SqT.of (k.tup e), tyTup (k.tup e), .inl ⟨h, rfl⟩⟩
theorem pkT2 {H : Hp} {a : Addr} {x y : V} {r1 r2 : Bool} (e : H a = some (.tup [x, y])) (h1 : ∀ H', NameV K H' x r1) (h2 : ∀ H', NameV K H' y r2) (h : (r1 && r2) = false) : Wr (PK K) H (.ref a) := fun H' k => .inr ⟨a, _, rfl, SqT.of (k.tup e), tyTup (k.tup e), .inr ⟨x, y, r1, r2, rfl, h1 H', h2 H', h.symm⟩⟩
def spWrong (K : Fg) : Sp := fun vs H Q _ => vs = [] ∧ ∀ d H', Same H H' → WrongAt K H H' d → Q (.ref d) H'
theorem ok_wrong (T : TX K mg) : FnG w K mg base CX0 1 (a_law_wrong_items K) P_law_wrong_items [] (spWrong K) := by
  obtain ⟨fd, F⟩ := T.D_law_wrong_items
  refine ⟨fd, [], F.ok sc_law_wrong_items (fun vs H Q E h => ?_) (fun cdv A outer s H vs Q E hr h => ?_), F.bindsN fun _ _ _ _ _ _ us hl => match us, hl with | [], _ => rfl, .nil, F.kp⟩
  · obtain ⟨rfl, _⟩ := h
    rfl
  · obtain ⟨rfl, q⟩ := h
    refine ⟨_, (pss_cons (ps_set (i := 0) sc_law_wrong_items.nd rfl (.inl rfl) (pe_lstA (pa_cons pe_str (pa_cons pe_str (pa_cons pe_str (pa_cons pe_str (pa_cons pe_int (pa_cons pe_non (pa_cons pe_bl (pa_cons (pe_tupA (pa_cons pe_str pa_nil)) (pa_cons pe_str (pa_cons pe_str pa_nil)))))))))))) (pss_cons (ps_set (i := 1) sc_law_wrong_items.nd rfl (.inl rfl) (pe_lstA (pa_cons pe_non (pa_cons pe_int (pa_cons pe_bl (pa_cons (pe_tupA (pa_cons pe_str pa_nil)) (pa_cons (pe_op op_mulS pe_str pe_int) (pa_cons pe_str (pa_cons (pe_tupA pa_nil) pa_nil))))))))) (pss_cons (ps_set (i := 2) sc_law_wrong_items.nd rfl (.inl rfl) (pe_lstA (pa_cons pe_str (pa_cons (pe_tupA (pa_cons pe_str pa_nil)) (pa_cons (pe_tupA (pa_cons pe_str (pa_cons pe_str (pa_cons pe_str pa_nil)))) (pa_cons (pe_tupA (pa_cons pe_str (pa_cons pe_str pa_nil))) (pa_cons (pe_tupA (pa_cons pe_str (pa_cons pe_str pa_nil))) (pa_cons (pe_tupA (pa_cons pe_int (pa_cons pe_str pa_nil))) (pa_cons pe_non (pa_cons (pe_tupA pa_nil) (pa_cons (pe_tupA (pa_cons pe_str (pa_cons pe_non pa_nil))) pa_nil))))))))))) (pss_one (ps_ret (pe_disp (pps_cons pe_str (pv 0) (pps_cons pe_str (pv 1) (pps_cons pe_str (pv 2) (pps_cons pe_str (pe_lstA (pa_cons pe_str (pa_cons pe_non (pa_cons pe_int (pa_cons (pe_tupA pa_nil) (pa_cons (pe_tupA (pa_cons pe_str pa_nil)) pa_nil)))))) (pps_cons pe_str (pe_lstA (pa_cons pe_non (pa_cons pe_str (pa_cons pe_int (pa_cons pe_bl pa_nil))))) pps_nil))))) rfl rfl (by intro z; cases z) (by decide))))))), ?_⟩
    refine ⟨(by decide : 1 ≤ 1001), ?_⟩
    intro p1 H1 n1 s1 f1
    refine ⟨(by decide : 10 ≤ 1001), ?_⟩
    intro l1 H2 n2 s2 g1
    refine ⟨(by decide : 1 ≤ 1001), ?_⟩
    intro p2 H3 n3 s3 f2
    refine ⟨_, _, rfl, rfl, ⟨by decide, fun _ _ => by decide, fun _ _ => by decide⟩, ?_⟩
    refine ⟨(by decide : 0 ≤ 1001), ?_⟩
    intro p3 H4 n4 s4 f3
    refine ⟨(by decide : 7 ≤ 1001), ?_⟩
    intro l2 H5 n5 s5 g2
    refine ⟨(by decide : 1 ≤ 1001), ?_⟩
    intro p4 H6 n6 s6 f4
    refine ⟨(by decide : 3 ≤ 1001), ?_⟩
    intro p5 H7 n7 s7 f5
    refine ⟨(by decide : 2 ≤ 1001), ?_⟩
    intro p6 H8 n8 s8 f6
    refine ⟨(by decide : 2 ≤ 1001), ?_⟩
    intro p7 H9 n9 s9 f7
    refine ⟨(by decide : 2 ≤ 1001), ?_⟩
    intro p8 H10 n10 s10 f8
    refine ⟨(by decide : 0 ≤ 1001), ?_⟩
    intro p9 H11 n11 s11 f9
    refine ⟨(by decide : 2 ≤ 1001), ?_⟩
    intro p10 H12 n12 s12 f10
    refine ⟨(by decide : 9 ≤ 1001), ?_⟩
    intro l3 H13 n13 s13 g3
    intro d n14
    have s14 := snew (o := .dK []) n14
    refine ⟨_, rfl, _, rfl, _, rfl, ?_⟩
    refine ⟨(by decide : 0 ≤ 1001), ?_⟩
    intro p11 H15 n15 s15 f11
    refine ⟨(by decide : 1 ≤ 1001), ?_⟩
    intro p12 H16 n16 s16 f12
    refine ⟨(by decide : 5 ≤ 1001), ?_⟩
    intro l4 H17 n17 s17 g4
    refine ⟨(by decide : 4 ≤ 1001), ?_⟩
    intro l5 H18 n18 s18 g5
    have d18 : H18 d = some (.dK []) := s18 _ _ (s17 _ _ (s16 _ _ (s15 _ _ upd_same)))
    refine ⟨d18, [(kS "n", .ref l1), (kS "t", .ref l2), (kS "k", .ref l3), (kS "s", .ref l4), (kS "d", .ref l5)], rfl, (by decide : 5 ≤ 15), ?_⟩
    generalize eF : upd H18 d _ = Hf
    have hd : Hf d = some (.dK (mergeK [] [(kS "n", .ref l1), (kS "t", .ref l2), (kS "k", .ref l3), (kS "s", .ref l4), (kS "d", .ref l5)])) := by rw [← eF]; exact upd_same
    have bf : ∀ b, b ≠ d → Hf b = H18 b := fun b hb => by rw [← eF]; exact upd_ne hb
    have e13 : Same H13 Hf := fun b o hb => by
      rw [bf b (ne_of_none hb n14)]
      exact s18 _ _ (s17 _ _ (s16 _ _ (s15 _ _ (s14 _ _ hb))))
    have e12 := s13.trans e13
    have e11 := s12.trans e12
    have e10 := s11.trans e11
    have e9 := s10.trans e10
    have e8 := s9.trans e9
    have e7 := s8.trans e8
    have e6 := s7.trans e7
    have e5 := s6.trans e6
    have e4 := s5.trans e5
    have e3 := s4.trans e4
    have e2 := s3.trans e3
    have e1 := s2.trans e2
    have e0 := s1.trans e1
    have nd11 : p11 ≠ d := ne_of (s18 _ _ (s17 _ _ (s16 _ _ f11))) d18 (by intro z; cases z)
    have h11 : Hf p11 = some (.tup []) := by rw [bf p11 nd11]; exact s18 _ _ (s17 _ _ (s16 _ _ f11))
    have nd12 : p12 ≠ d := ne_of (s18 _ _ (s17 _ _ f12)) d18 (by intro z; cases z)
    have h12 : Hf p12 = some (.tup [.str "source"]) := by rw [bf p12 nd12]; exact s18 _ _ (s17 _ _ f12)
    have ndl4 : l4 ≠ d := ne_of (s18 _ _ g4) d18 (by intro z; cases z)
    have hl4 := (bf l4 ndl4).trans (s18 _ _ g4)
    have ndl5 : l5 ≠ d := ne_of g5 d18 (by intro z; cases z)
    have hl5 := (bf l5 ndl5).trans g5
    have a2 := s1.trans s2
    have a3 := a2.trans s3
    have a4 := a3.trans s4
    have a5 := a4.trans s5
    have a6 := a5.trans s6
    have a7 := a6.trans s7
    have a8 := a7.trans s8
    have a9 := a8.trans s9
    have a10 := a9.trans s10
    have a11 := a10.trans s11
    have a12 := a11.trans s12
    have a13 := a12.trans s13
    have a14 := a13.trans s14
    have a15 := a14.trans s15
    have a16 := a15.trans s16
    have a17 := a16.trans s17
    have a18 := a17.trans s18
    refine q d Hf e0 ⟨⟨_, l1, _, hd, rfl, e2 _ _ g1, s1.free n2, (by decide : 0 < 10), (by decide : 10 < 1000), ?_⟩, ⟨_, l2, _, hd, rfl, e5 _ _ g2, a4.free n5, (by decide : 0 < 7), (by decide : 7 < 1000), ?_⟩, ⟨_, l3, _, hd, rfl, e13 _ _ g3, a12.free n13, (by decide : 0 < 9), (by decide : 9 < 1000), ?_⟩, ⟨_, l4, _, hd, rfl, hl4, a16.free n17, (by decide : 0 < 5), (by decide : 5 < 1000), ?_⟩, ⟨_, l5, _, hd, rfl, hl5, a17.free n18, (by decide : 0 < 4), (by decide : 4 < 1000), ?_⟩⟩
    · exact faC (pnS (by decide) (by decide +kernel)) (faC (pnS (by decide) (by decide +kernel)) (faC (pnS (by decide) (by decide +kernel)) (faC (pnS (by decide) (by decide +kernel)) (faC (fun H' k => .inr ⟨ntInt kB1, rfl⟩) (faC (fun H' k => .inr ⟨ntNon kB2, rfl⟩) (faC (fun H' k => .inr ⟨ntBl kB3, rfl⟩) (faC (fun H' k => .inr ⟨ntTup (k.tup (e1 _ _ f1)) kB4, rfl⟩) (faC (pnS (by decide) (by decide +kernel)) (faC (pnS (by decide) (by decide +kernel)) fn0)))))))))
    · exact faC (fun H' k => .inr ⟨ntNon kB2, rfl⟩) (faC (fun H' k => .inr ⟨ntInt kB1, rfl⟩) (faC (fun H' k => .inr ⟨ntBl kB3, rfl⟩) (faC (fun H' k => .inr ⟨ntTup (k.tup (e3 _ _ f2)) kB4, rfl⟩) (faC (ptS (by decide +kernel) (by decide +kernel)) (faC (ptS (by decide +kernel) (by decide +kernel)) (faC (fun H' k => .inr ⟨ntTup (k.tup (e4 _ _ f3)) kB4, rfl⟩) fn0))))))
    · exact faC (fun H' k => .inl ⟨ntStr kB5, rfl⟩) (faC (pkT (e6 _ _ f4) (by intro z; cases z)) (faC (pkT (e7 _ _ f5) (by intro z; cases z)) (faC (pkT2 (e8 _ _ f6) (fun _ => nmV (by decide)) (fun _ => nmV (by decide)) (by decide +kernel)) (faC (pkT2 (e9 _ _ f7) (fun _ => nmV (by decide)) (fun _ => nmV (by decide)) (by decide +kernel)) (faC (pkT2 (r1 := false) (e10 _ _ f8) (fun _ => .inr ⟨ntInt kB1, rfl⟩) (fun _ => nmV (by decide)) rfl) (faC (fun H' k => .inl ⟨ntNon kB6, rfl⟩) (faC (pkT (e11 _ _ f9) (by intro z; cases z)) (faC (pkT2 (r2 := false) (e12 _ _ f10) (fun _ => nmV (by decide)) (fun _ => .inr ⟨ntNon kB2, rfl⟩) (by decide +kernel)) fn0))))))))
    · exact faC (fun H' k => ⟨.type "str", .base (.str _), T.k_tt (by decide)⟩) (faC (fun H' k => ⟨.type "NoneType", .base .non, T.k_tt (by decide)⟩) (faC (fun H' k => ⟨.type "int", .base (.int _), T.k_tt (by decide)⟩) (faC (fun H' k => ⟨.type "tuple", tyTup (k.tup h11), T.k_tt (by decide)⟩) (faC (fun H' k => ⟨.type "tuple", tyTup (k.tup h12), T.k_tt (by decide)⟩) fn0))))
    · exact faC (fun H' k => ⟨.type "NoneType", .base .non, kLT (r1 := false) (by decide +kernel) (fun _ => by decide +kernel) (by intro z; cases z)⟩) (faC (fun H' k => ⟨.type "str", .base (.str _), kLT (r1 := false) (by decide +kernel) (fun _ => by decide +kernel) (by intro z; cases z)⟩) (faC (fun H' k => ⟨.type "int", .base (.int _), kLT (r1 := false) (by decide +kernel) (fun _ => by decide +kernel) (by intro z; cases z)⟩) (faC (fun H' k => ⟨.type "bool", .base (.bl _), kLT (r1 := false) (by decide +kernel) (fun _ => by decide +kernel) (by intro z; cases z)⟩) fn0)))
end
end K98
/-! K98Right -/
set_option Elab.async false
set_option linter.all false
set_option maxRecDepth 100000
set_option maxHeartbeats 1000000
/-! the law's right deeds -/
namespace K98
open PySem PySem.Spec PyProof.Rows L2
def rSrcA (K : Fg) (H1 : Hp) (Q : VK) (vs : List V) : Prop := ∃ g o, vs = [.ref g] ∧ H1 g = some (.dK o) ∧ OkO o ∧ ∀ y H', H1 y = none → Same H1 H' → SrcAt K H' y o → Q (.ref y) H'
def tSrcA (K : Fg) (t : TE) : TE := fun σ H Q => t σ H fun v H1 => rSrcA K H1 Q [v]
theorem pe_srcA {X : Cx} {f : Addr} {fd : FuncData} {k : Nat} {e : Expr} {t : TE} {p pos : Pos} (M : Mk X.K (cSrc X.K) f) (hm : X.mg "Source" = some (.ref (cSrc X.K))) (F : FnOk X.prog X.w X.K X.mg X.base CX0 k f fd P_Source_init (spSrcInit X.K)) (hr : Room (k + 1) X.A) (hb : Binds X.K fd P_Source_init []) (he : PE X e t)
    (hg : Gl X "Source" := by rfl) (hst : starEach (e :: []) X.env = (false, eval e X.env) :: starEach [] X.env := by rfl) (hpl : (backTo pos (starEach [] X.env)).any (·.1) = false := by rfl) :
    PE X (.Call (.Name "Source" p) [e] [] pos) (tSrcA X.K t) := ⟨fun pins s σ H Q I hq => by
  refine (pe_make M F hr hg hm hb .nil pass0 (pa_wide (pa_cons he pa_nil hst)) (by decide) hst hpl).run pins s σ H Q I ⟨fun vs H1 => rSrcA X.K H1 Q vs, fun vs H1 h => ?_, hq⟩
  obtain ⟨g, o, rfl, hd, ok, q⟩ := h
  intro y dy ny ndy ndx
  have gy : g ≠ y := ne_of_none hd ny
  have gdy : g ≠ dy := ne_of_none hd ndy
  refine ⟨y, dy, g, o, rfl, upd_same, .inl (by rw [upd_ne gy, upd_ne gdy, hd]), gy, fun p3 n3 => ⟨rfl, ?_⟩⟩
  obtain ⟨z1, n3⟩ := upd_none n3
  obtain ⟨z2, n3⟩ := upd_none n3
  have sm2 := same_upd (o := .ins (cSrc X.K) dy [("given", .ref p3)]) (same_upd (o := .dK o) (same_upd (o := .ins (cSrc X.K) dy []) (same_upd (o := .own y) (Same.refl H1) ndy) ny) n3) ny
  exact q y _ ny sm2 ⟨⟨dy, p3, upd_same, by rw [upd_ne z1, upd_same]⟩, ok⟩⟩
def rCatF : R2 := fun x y H Q => ∃ l b xs zs, x = .ref l ∧ y = .ref b ∧ H l = some (.lst xs) ∧ H b = some (.lst zs) ∧ xs.length + zs.length ≤ 1001 ∧ ∀ p H', H p = none → Same H H' → H' p = some (.lst (xs ++ zs)) → Q (.ref p) H'
theorem op_catF {X : Cx} : OpR X (binaryOp .Add) rCatF := fun pins s σ H x y v u Q I rx ry ⟨l, b, xs, zs, e1, e2, h1, h2, h3, q⟩ =>
  op_cat pins s σ H x y v u Q I rx ry ⟨l, b, xs, zs, e1, e2, h1, h2, Nat.le_trans h3 small_line', fun p np => q p _ np (snew np) upd_same⟩
theorem okO1 {z : Str} : OkO [(kO, V.str z)] := ⟨List.nodup_cons.mpr ⟨List.not_mem_nil, List.nodup_nil⟩, (by decide : 1 ≤ 2), fun p hp => by
  rw [List.mem_singleton.mp hp]
  exact ⟨.inl rfl, z, rfl⟩⟩
section
variable {w : World} {K : Fg} {mg : Str → Option Value} {base : Heap}
def srts : List Str := ["ns", "nnt", "nn", "k", "", "d", "n", "d", "nnt"]
/-- the right deed j -/
def RDAt (K : Fg) (H0 H : Hp) (t : Addr) : Nat → Prop
  | 0 => ∃ s o, H t = some (.tup [.str "put", .str "a1", .ref s]) ∧ SrcAt K H s o
  | 1 => H t = some (.tup [.str "write", .str "h", .str "o", .str "t"])
  | 2 => H t = some (.tup [.str "erase", .str "h", .str "q"])
  | 3 => ∃ k, H t = some (.tup [.str "ask", .ref k]) ∧ H k = some (.tup [.str "h", .str "o"])
  | 4 => H t = some (.tup [.str "undo"])
  | 5 => ∃ A u, H t = some (.tup [.str "attempt", .ref A]) ∧ H A = some (.tup [.ref u]) ∧ H u = some (.tup [.str "write", .str "h", .str "q", .str "z"])
  | 6 => H t = some (.tup [.str "without", .str "n"])
  | 7 => ∃ A u, H t = some (.tup [.str "attempt", .ref A]) ∧ H A = some (.lst [.ref u]) ∧ H0 A = none ∧ H u = some (.tup [.str "undo"])
  | 8 => H t = some (.tup [.str "write", .str "w", .str "o", .str ""])
  | _ => False
def RightAt (K : Fg) (H0 H : Hp) (l : Addr) : Prop := ∃ ps : List Addr, H l = some (.lst (ps.map V.ref)) ∧ ps.length = 9 ∧ ∀ (j : Nat) (p : Addr), ps[j]? = some p → ∃ t z, srts[j]? = some z ∧ H p = some (.tup [.ref t, .str z]) ∧ RDAt K H0 H t j
def spRight (K : Fg) : Sp := fun vs H Q _ => vs = [] ∧ ∀ l H', Same H H' → H l = none → RightAt K H H' l → Q (.ref l) H'
theorem ok_right (T : TX K mg) : FnG w K mg base CX0 3 (a_law_right_deeds K) P_law_right_deeds [] (spRight K) := by
  obtain ⟨fd, F⟩ := T.D_law_right_deeds
  obtain ⟨fS, dS, GS, bS, vS, kS'⟩ := ok_src_init (w := w) (base := base) T
  cases vS
  refine ⟨fd, [], F.ok sc_law_right_deeds (fun vs H Q E h => ?_) (fun cdv A outer s H vs Q E hr h => ?_), F.bindsN fun _ _ _ _ _ _ us hl => match us, hl with | [], _ => rfl, .nil, F.kp⟩
  · obtain ⟨rfl, _⟩ := h
    rfl
  · obtain ⟨rfl, q⟩ := h
    refine ⟨_, (pss_cons (ps_set (i := 0) sc_law_right_deeds.nd rfl (.inl rfl) (pe_lstA (pa_cons (pe_tupA (pa_cons (pe_tupA (pa_cons pe_str (pa_cons pe_str (pa_cons (pe_srcA T.mk_Source T.g_Source GS (Room.mono hr (by decide)) bS (pe_disp (pps_cons pe_str pe_str pps_nil) rfl rfl (by intro z; cases z) (by decide))) pa_nil)))) (pa_cons pe_str pa_nil))) (pa_cons (pe_tupA (pa_cons (pe_tupA (pa_cons pe_str (pa_cons pe_str (pa_cons pe_str (pa_cons pe_str pa_nil))))) (pa_cons pe_str pa_nil))) (pa_cons (pe_tupA (pa_cons (pe_tupA (pa_cons pe_str (pa_cons pe_str (pa_cons pe_str pa_nil)))) (pa_cons pe_str pa_nil))) pa_nil))))) (pss_cons (ps_set (i := 0) sc_law_right_deeds.nd rfl (.inl rfl) (pe_op op_catF (pv 0) (pe_lstA (pa_cons (pe_tupA (pa_cons (pe_tupA (pa_cons pe_str (pa_cons (pe_tupA (pa_cons pe_str (pa_cons pe_str pa_nil))) pa_nil))) (pa_cons pe_str pa_nil))) (pa_cons (pe_tupA (pa_cons (pe_tupA (pa_cons pe_str pa_nil)) (pa_cons pe_str pa_nil))) (pa_cons (pe_tupA (pa_cons (pe_tupA (pa_cons pe_str (pa_cons (pe_tupA (pa_cons (pe_tupA (pa_cons pe_str (pa_cons pe_str (pa_cons pe_str (pa_cons pe_str pa_nil))))) pa_nil)) pa_nil))) (pa_cons pe_str pa_nil))) pa_nil)))))) (pss_one (ps_ret (pe_op op_catF (pv 0) (pe_lstA (pa_cons (pe_tupA (pa_cons (pe_tupA (pa_cons pe_str (pa_cons pe_str pa_nil))) (pa_cons pe_str pa_nil))) (pa_cons (pe_tupA (pa_cons (pe_tupA (pa_cons pe_str (pa_cons (pe_lstA (pa_cons (pe_tupA (pa_cons pe_str pa_nil)) pa_nil)) pa_nil))) (pa_cons pe_str pa_nil))) (pa_cons (pe_tupA (pa_cons (pe_tupA (pa_cons pe_str (pa_cons pe_str (pa_cons pe_str (pa_cons pe_str pa_nil))))) (pa_cons pe_str pa_nil))) pa_nil))))))))), ?_⟩
    intro g ng
    refine ⟨upd_same, [(kO, .str "2")], rfl, (by decide : 1 ≤ 15), g, [(kO, .str "2")], rfl, upd_same, okO1, ?_⟩
    intro so H1 n1 s1' fso
    have s1 : Same H H1 := (same_upd (same_upd (Same.refl H) ng) ng).trans s1'
    refine ⟨(by decide : 3 ≤ 1001), ?_⟩
    intro t0 H2 n2 s2 ft0
    refine ⟨(by decide : 2 ≤ 1001), ?_⟩
    intro p0 H3 n3 s3 fp0
    refine ⟨(by decide : 4 ≤ 1001), ?_⟩
    intro t1 H4 n4 s4 ft1
    refine ⟨(by decide : 2 ≤ 1001), ?_⟩
    intro p1 H5 n5 s5 fp1
    refine ⟨(by decide : 3 ≤ 1001), ?_⟩
    intro t2 H6 n6 s6 ft2
    refine ⟨(by decide : 2 ≤ 1001), ?_⟩
    intro p2 H7 n7 s7 fp2
    refine ⟨(by decide : 3 ≤ 1001), ?_⟩
    intro la H8 n8 s8 fla
    refine ⟨_, rfl, ?_⟩
    refine ⟨(by decide : 2 ≤ 1001), ?_⟩
    intro k3 H9 n9 s9 fk3
    refine ⟨(by decide : 2 ≤ 1001), ?_⟩
    intro t3 H10 n10 s10 ft3
    refine ⟨(by decide : 2 ≤ 1001), ?_⟩
    intro p3 H11 n11 s11 fp3
    refine ⟨(by decide : 1 ≤ 1001), ?_⟩
    intro t4 H12 n12 s12 ft4
    refine ⟨(by decide : 2 ≤ 1001), ?_⟩
    intro p4 H13 n13 s13 fp4
    refine ⟨(by decide : 4 ≤ 1001), ?_⟩
    intro u5 H14 n14 s14 fu5
    refine ⟨(by decide : 1 ≤ 1001), ?_⟩
    intro A5 H15 n15 s15 fA5
    refine ⟨(by decide : 2 ≤ 1001), ?_⟩
    intro t5 H16 n16 s16 ft5
    refine ⟨(by decide : 2 ≤ 1001), ?_⟩
    intro p5 H17 n17 s17 fp5
    refine ⟨(by decide : 3 ≤ 1001), ?_⟩
    intro lb H18 n18 s18 flb
    refine ⟨la, lb, [.ref p0, .ref p1, .ref p2], _, rfl, rfl, ?_, flb, (by decide : 6 ≤ 1001), ?_⟩
    · exact s18 _ _ (s17 _ _ (s16 _ _ (s15 _ _ (s14 _ _ (s13 _ _ (s12 _ _ (s11 _ _ (s10 _ _ (s9 _ _ (fla))))))))))
    intro lc H19 n19 s19 flc
    refine ⟨_, rfl, ?_⟩
    refine ⟨(by decide : 2 ≤ 1001), ?_⟩
    intro t6 H20 n20 s20 ft6
    refine ⟨(by decide : 2 ≤ 1001), ?_⟩
    intro p6 H21 n21 s21 fp6
    refine ⟨(by decide : 1 ≤ 1001), ?_⟩
    intro u7 H22 n22 s22 fu7
    refine ⟨(by decide : 1 ≤ 1001), ?_⟩
    intro A7 H23 n23 s23 fA7
    refine ⟨(by decide : 2 ≤ 1001), ?_⟩
    intro t7 H24 n24 s24 ft7
    refine ⟨(by decide : 2 ≤ 1001), ?_⟩
    intro p7 H25 n25 s25 fp7
    refine ⟨(by decide : 4 ≤ 1001), ?_⟩
    intro t8 H26 n26 s26 ft8
    refine ⟨(by decide : 2 ≤ 1001), ?_⟩
    intro p8 H27 n27 s27 fp8
    refine ⟨(by decide : 3 ≤ 1001), ?_⟩
    intro ld H28 n28 s28 fld
    refine ⟨lc, ld, [.ref p0, .ref p1, .ref p2, .ref p3, .ref p4, .ref p5], _, rfl, rfl, ?_, fld, (by decide : 9 ≤ 1001), ?_⟩
    · exact s28 _ _ (s27 _ _ (s26 _ _ (s25 _ _ (s24 _ _ (s23 _ _ (s22 _ _ (s21 _ _ (s20 _ _ (flc)))))))))
    intro le H29 n29 s29 fle
    have e29 : Same H29 H29 := Same.refl _
    have e28 := s29.trans e29
    have e27 := s28.trans e28
    have e26 := s27.trans e27
    have e25 := s26.trans e26
    have e24 := s25.trans e25
    have e23 := s24.trans e24
    have e22 := s23.trans e23
    have e21 := s22.trans e22
    have e20 := s21.trans e21
    have e19 := s20.trans e20
    have e18 := s19.trans e19
    have e17 := s18.trans e18
    have e16 := s17.trans e17
    have e15 := s16.trans e16
    have e14 := s15.trans e15
    have e13 := s14.trans e14
    have e12 := s13.trans e13
    have e11 := s12.trans e12
    have e10 := s11.trans e11
    have e9 := s10.trans e10
    have e8 := s9.trans e9
    have e7 := s8.trans e8
    have e6 := s7.trans e7
    have e5 := s6.trans e6
    have e4 := s5.trans e5
    have e3 := s4.trans e4
    have e2 := s3.trans e3
    have e1 := s2.trans e2
    have a1 := s1
    have a2 := a1.trans s2
    have a3 := a2.trans s3
    have a4 := a3.trans s4
    have a5 := a4.trans s5
    have a6 := a5.trans s6
    have a7 := a6.trans s7
    have a8 := a7.trans s8
    have a9 := a8.trans s9
    have a10 := a9.trans s10
    have a11 := a10.trans s11
    have a12 := a11.trans s12
    have a13 := a12.trans s13
    have a14 := a13.trans s14
    have a15 := a14.trans s15
    have a16 := a15.trans s16
    have a17 := a16.trans s17
    have a18 := a17.trans s18
    have a19 := a18.trans s19
    have a20 := a19.trans s20
    have a21 := a20.trans s21
    have a22 := a21.trans s22
    have a23 := a22.trans s23
    have a24 := a23.trans s24
    have a25 := a24.trans s25
    have a26 := a25.trans s26
    have a27 := a26.trans s27
    have a28 := a27.trans s28
    have a29 := a28.trans s29
    refine q le H29 a29 (a28.free n29) ⟨[p0, p1, p2, p3, p4, p5, p6, p7, p8], fle, rfl, fun j p hj => ?_⟩
    match j, hj with
    | 0, hj =>
      obtain rfl := Option.some.inj hj
      exact ⟨t0, _, rfl, e3 _ _ fp0, ⟨so, _, e2 _ _ ft0, fso.same e1⟩⟩
    | 1, hj =>
      obtain rfl := Option.some.inj hj
      exact ⟨t1, _, rfl, e5 _ _ fp1, e4 _ _ ft1⟩
    | 2, hj =>
      obtain rfl := Option.some.inj hj
      exact ⟨t2, _, rfl, e7 _ _ fp2, e6 _ _ ft2⟩
    | 3, hj =>
      obtain rfl := Option.some.inj hj
      exact ⟨t3, _, rfl, e11 _ _ fp3, ⟨k3, e10 _ _ ft3, e9 _ _ fk3⟩⟩
    | 4, hj =>
      obtain rfl := Option.some.inj hj
      exact ⟨t4, _, rfl, e13 _ _ fp4, e12 _ _ ft4⟩
    | 5, hj =>
      obtain rfl := Option.some.inj hj
      exact ⟨t5, _, rfl, e17 _ _ fp5, ⟨A5, u5, e16 _ _ ft5, e15 _ _ fA5, e14 _ _ fu5⟩⟩
    | 6, hj =>
      obtain rfl := Option.some.inj hj
      exact ⟨t6, _, rfl, e21 _ _ fp6, e20 _ _ ft6⟩
    | 7, hj =>
      obtain rfl := Option.some.inj hj
      exact ⟨t7, _, rfl, e25 _ _ fp7, ⟨A7, u7, e24 _ _ ft7, e23 _ _ fA7, a22.free n23, e22 _ _ fu7⟩⟩
    | 8, hj =>
      obtain rfl := Option.some.inj hj
      exact ⟨t8, _, rfl, e27 _ _ fp8, e26 _ _ ft8⟩
    | j + 9, hj => cases hj
end
end K98
/-! K98Spoil -/
set_option Elab.async false
set_option linter.all false
set_option maxRecDepth 100000
set_option maxHeartbeats 1000000
/-! deeds with one thing wrong -/
namespace K98
open PySem PySem.Spec PyProof.Rows L2
section
variable {w : World} {K : Fg} {mg : Str → Option Value} {base : Heap}
def badLen (z : Str) (n : Nat) : Bool := !(decide (z = "put") && decide (n = 2)) && !(decide (z = "without") && decide (n = 1)) && !(decide (z = "write") && decide (n = 3)) && !(decide (z = "erase") && decide (n = 2)) && !(decide (z = "ask") && decide (n = 1)) && !(decide (z = "undo") && decide (n = 0)) && !(decide (z = "attempt") && decide (n = 1))
theorem nand {a b : Prop} [Decidable a] [Decidable b] (h : (!(decide a && decide b)) = true) : ¬ (a ∧ b) := fun ⟨x, y⟩ => by
  rw [decide_eq_true x, decide_eq_true y] at h
  cases h
theorem badS {H : Hp} {z : Str} {r : List V} {n : Nat} (hn : r.length = n) (h : badLen z n = true) : BadDeed K H (.str z :: r) := by
  subst hn
  unfold badLen at h
  obtain ⟨h, h7⟩ := Bool.and_eq_true_iff.mp h
  obtain ⟨h, h6⟩ := Bool.and_eq_true_iff.mp h
  obtain ⟨h, h5⟩ := Bool.and_eq_true_iff.mp h
  obtain ⟨h, h4⟩ := Bool.and_eq_true_iff.mp h
  obtain ⟨h, h3⟩ := Bool.and_eq_true_iff.mp h
  obtain ⟨h1, h2⟩ := Bool.and_eq_true_iff.mp h
  exact .inr (.inr ⟨z, r, rfl, .other (nand h1) (nand h2) (nand h3) (nand h4), fun e x er => absurd ⟨e, by rw [er]; rfl⟩ (nand h5), fun ⟨e, er⟩ => nand h6 ⟨e, by rw [er]; rfl⟩, fun e x er => absurd ⟨e, by rw [er]; rfl⟩ (nand h7)⟩)
/-- a deed of edit's with a false in it -/
theorem badE {H : Hp} {z : Str} {r : List V} (h : EditR K H z r false) (h1 : z ≠ "ask") (h2 : z ≠ "undo") (h3 : z ≠ "attempt") : BadDeed K H (.str z :: r) := .inr (.inr ⟨z, r, rfl, h, fun e => absurd e h1, fun e => absurd e.1 h2, fun e => absurd e h3⟩)
structure DeedOk (K : Fg) (H : Hp) (d : List V) (z : Str) : Prop where
  len : d.length = z.cps.toList.length + 1
  small : d.length ≤ 5
  zs : z.length ≤ 1000
  b0 : ∀ H', BadDeed K H' d.dropLast
  b1 : ∀ H' x, BadDeed K H' (d ++ [x])
  b3 : ∀ (i : Nat) c, z.cps.toList[i]? = some c → ∃ P, (∀ H0 H1 w, WrongAt K H0 H1 w → WL P H0 H1 w ⟨#[c]⟩) ∧ ∀ H1 x, KT H H1 → Wr P H1 x → ∀ H', KT H1 H' → BadDeed K H' (d.take (i + 1) ++ x :: d.drop (i + 2))
theorem sN : (⟨#[110]⟩ : Str) = "n" := by decide +kernel
theorem sT : (⟨#[116]⟩ : Str) = "t" := by decide +kernel
theorem sK : (⟨#[107]⟩ : Str) = "k" := by decide +kernel
theorem sS : (⟨#[115]⟩ : Str) = "s" := by decide +kernel
theorem sD : (⟨#[100]⟩ : Str) = "d" := by decide +kernel
theorem selN {H0 H1 : Hp} {w : Addr} (h : WrongAt K H0 H1 w) : WL (PN K) H0 H1 w ⟨#[110]⟩ := by rw [sN]; exact h.n
theorem selT {H0 H1 : Hp} {w : Addr} (h : WrongAt K H0 H1 w) : WL (PTx K) H0 H1 w ⟨#[116]⟩ := by rw [sT]; exact h.t
theorem selK {H0 H1 : Hp} {w : Addr} (h : WrongAt K H0 H1 w) : WL (PK K) H0 H1 w ⟨#[107]⟩ := by rw [sK]; exact h.k
theorem selS {H0 H1 : Hp} {w : Addr} (h : WrongAt K H0 H1 w) : WL (PTg K) H0 H1 w ⟨#[115]⟩ := by rw [sS]; exact h.s
theorem selD {H0 H1 : Hp} {w : Addr} (h : WrongAt K H0 H1 w) : WL (PD K) H0 H1 w ⟨#[100]⟩ := by rw [sD]; exact h.d
theorem z_ns : ("ns" : Str).cps.toList = [110, 115] := by decide +kernel
theorem z_nnt : ("nnt" : Str).cps.toList = [110, 110, 116] := by decide +kernel
theorem z_nn : ("nn" : Str).cps.toList = [110, 110] := by decide +kernel
theorem z_k : ("k" : Str).cps.toList = [107] := by decide +kernel
theorem z_d : ("d" : Str).cps.toList = [100] := by decide +kernel
theorem z_n : ("n" : Str).cps.toList = [110] := by decide +kernel
theorem z_0 : ("" : Str).cps.toList = [] := by decide +kernel
theorem nmT {H : Hp} {z : Str} (h : z.length ≤ 1000) (h2 : nameB z = true) : NameV K H (.str z) true := .inl ⟨z, rfl, h, h2.symm⟩
theorem txT {H : Hp} {z : Str} (h : z.length ≤ 1000) (h2 : textB z = true) : TextV K H (.str z) true := .inl ⟨z, rfl, h, h2.symm⟩
theorem ok_w3 {H : Hp} {a b t : Str} (ha : a.length ≤ 1000) (na : nameB a = true) (hb : b.length ≤ 1000) (nb : nameB b = true) (ht : t.length ≤ 1000) (nt : textB t = true) : DeedOk K H [.str "write", .str a, .str b, .str t] "nnt" := by
  refine ⟨by rw [z_nnt]; rfl, (by decide : 4 ≤ 5), by decide, fun H' => badS (n := 2) rfl (by decide +kernel), fun H' x => badS (n := 4) rfl (by decide +kernel), fun i c hc => ?_⟩
  rw [z_nnt] at hc
  match i, hc with
  | 0, hc =>
    obtain rfl := Option.some.inj hc
    exact ⟨_, fun _ _ _ => selN, fun H1 x k h H' k' => badE (EditR.write (r1 := false) (r2 := true) (r3 := true) (h H' k') (nmT hb nb) (txT ht nt)) (by decide) (by decide) (by decide)⟩
  | 1, hc =>
    obtain rfl := Option.some.inj hc
    exact ⟨_, fun _ _ _ => selN, fun H1 x k h H' k' => badE (EditR.write (r1 := true) (r2 := false) (r3 := true) (nmT ha na) (h H' k') (txT ht nt)) (by decide) (by decide) (by decide)⟩
  | 2, hc =>
    obtain rfl := Option.some.inj hc
    exact ⟨_, fun _ _ _ => selT, fun H1 x k h H' k' => badE (EditR.write (r1 := true) (r2 := true) (r3 := false) (nmT ha na) (nmT hb nb) (h H' k')) (by decide) (by decide) (by decide)⟩
  | i + 3, hc => cases hc
theorem ok_d {H : Hp} {v : V} : DeedOk K H [.str "attempt", v] "d" := by
  refine ⟨by rw [z_d]; rfl, (by decide : 2 ≤ 5), by decide, fun H' => badS (n := 0) rfl (by decide +kernel), fun H' x => badS (n := 2) rfl (by decide +kernel), fun i c hc => ?_⟩
  rw [z_d] at hc
  match i, hc with
  | 0, hc =>
    obtain rfl := Option.some.inj hc
    exact ⟨_, fun _ _ _ => selD, fun H1 x k h H' k' => .inr (.inr ⟨_, _, rfl, .other (by intro z; cases z.1) (by intro z; cases z.1) (by intro z; cases z.1) (by intro z; cases z.1), fun e => absurd e (by decide), fun e => absurd e.1 (by decide), fun _ y ey => by
      obtain rfl : x = y := by injection ey
      exact h H' k'⟩)⟩
  | i + 1, hc => cases hc
theorem deed_ok (T : TX K mg) {H0 H : Hp} {t : Addr} : ∀ {j : Nat} {z : Str}, RDAt K H0 H t j → srts[j]? = some z → ∃ d, H t = some (.tup d) ∧ DeedOk K H d z
  | 0, z, h, hz => by
    obtain rfl := Option.some.inj hz
    obtain ⟨s, o, h, hs⟩ := h
    refine ⟨_, h, by rw [z_ns]; rfl, (by decide : 3 ≤ 5), by decide, fun H' => badS (n := 1) rfl (by decide +kernel), fun H' x => badS (n := 3) rfl (by decide +kernel), fun i c hc => ?_⟩
    rw [z_ns] at hc
    match i, hc with
    | 0, hc =>
      obtain rfl := Option.some.inj hc
      exact ⟨_, fun _ _ _ => selN, fun H1 x k h H' k' => badE (EditR.put (r1 := false) (r2 := true) (h H' k') (tgV T (hs.kt (k.trans k')))) (by decide) (by decide) (by decide)⟩
    | 1, hc =>
      obtain rfl := Option.some.inj hc
      exact ⟨_, fun _ _ _ => selS, fun H1 x k h H' k' => badE (EditR.put (r1 := true) (r2 := false) (nmT (by decide) (by decide +kernel)) (h H' k')) (by decide) (by decide) (by decide)⟩
    | i + 2, hc => cases hc
  | 1, z, h, hz => by
    obtain rfl := Option.some.inj hz
    exact ⟨_, h, ok_w3 (by decide) (by decide +kernel) (by decide) (by decide +kernel) (by decide) (by decide +kernel)⟩
  | 2, z, h, hz => by
    obtain rfl := Option.some.inj hz
    refine ⟨_, h, by rw [z_nn]; rfl, (by decide : 3 ≤ 5), by decide, fun H' => badS (n := 1) rfl (by decide +kernel), fun H' x => badS (n := 3) rfl (by decide +kernel), fun i c hc => ?_⟩
    rw [z_nn] at hc
    match i, hc with
    | 0, hc =>
      obtain rfl := Option.some.inj hc
      exact ⟨_, fun _ _ _ => selN, fun H1 x k h H' k' => badE (EditR.erase (r1 := false) (r2 := true) (h H' k') (nmT (by decide) (by decide +kernel))) (by decide) (by decide) (by decide)⟩
    | 1, hc =>
      obtain rfl := Option.some.inj hc
      exact ⟨_, fun _ _ _ => selN, fun H1 x k h H' k' => badE (EditR.erase (r1 := true) (r2 := false) (nmT (by decide) (by decide +kernel)) (h H' k')) (by decide) (by decide) (by decide)⟩
    | i + 2, hc => cases hc
  | 3, z, h, hz => by
    obtain rfl := Option.some.inj hz
    obtain ⟨k0, h, hk⟩ := h
    refine ⟨_, h, by rw [z_k]; rfl, (by decide : 2 ≤ 5), by decide, fun H' => badS (n := 0) rfl (by decide +kernel), fun H' x => badS (n := 2) rfl (by decide +kernel), fun i c hc => ?_⟩
    rw [z_k] at hc
    match i, hc with
    | 0, hc =>
      obtain rfl := Option.some.inj hc
      exact ⟨_, fun _ _ _ => selK, fun H1 x k h H' k' => .inr (.inr ⟨_, _, rfl, .other (by intro z; cases z.1) (by intro z; cases z.1) (by intro z; cases z.1) (by intro z; cases z.1), fun _ y ey => (by
        obtain rfl : x = y := by injection ey
        exact h H' k'), fun e => absurd e.1 (by decide), fun e => absurd e (by decide)⟩)⟩
    | i + 1, hc => cases hc
  | 4, z, h, hz => by
    obtain rfl := Option.some.inj hz
    refine ⟨_, h, by rw [z_0]; rfl, (by decide : 1 ≤ 5), by decide, fun H' => .inl rfl, fun H' x => badS (n := 1) rfl (by decide +kernel), fun i c hc => ?_⟩
    rw [z_0] at hc
    cases hc
  | 5, z, h, hz => by
    obtain rfl := Option.some.inj hz
    obtain ⟨A, u, h, _⟩ := h
    exact ⟨_, h, ok_d⟩
  | 6, z, h, hz => by
    obtain rfl := Option.some.inj hz
    refine ⟨_, h, by rw [z_n]; rfl, (by decide : 2 ≤ 5), by decide, fun H' => badS (n := 0) rfl (by decide +kernel), fun H' x => badS (n := 2) rfl (by decide +kernel), fun i c hc => ?_⟩
    rw [z_n] at hc
    match i, hc with
    | 0, hc =>
      obtain rfl := Option.some.inj hc
      exact ⟨_, fun _ _ _ => selN, fun H1 x k h H' k' => badE (EditR.without (r := false) (h H' k')) (by decide) (by decide) (by decide)⟩
    | i + 1, hc => cases hc
  | 7, z, h, hz => by
    obtain rfl := Option.some.inj hz
    obtain ⟨A, u, h, _⟩ := h
    exact ⟨_, h, ok_d⟩
  | 8, z, h, hz => by
    obtain rfl := Option.some.inj hz
    exact ⟨_, h, ok_w3 (by decide) (by decide +kernel) (by decide) (by decide +kernel) (by decide) (by decide +kernel)⟩
  | j + 9, z, h, hz => by cases h
end
end K98
/-! K98Spt -/
set_option Elab.async false
set_option linter.all false
set_option maxRecDepth 100000
set_option maxHeartbeats 1000000
/-! _law_spoilt -/
namespace K98
open PySem PySem.Spec PyProof.Rows L2
def rSlG : V → Option Int → Option Int → Hp → VK → Prop := fun x lo hi H Q => ∃ a xs, x = .ref a ∧ H a = some (.tup xs) ∧ ∀ p H', Same H H' → H' p = some (.tup (cutV xs lo hi)) → Q (.ref p) H'
theorem sl_tupG {X : Cx} : SlR X rSlG := by
  intro pins s σ H x v vl vu lo hi sl Q I rx hs pl pu h
  obtain ⟨a, xs, rfl, h, q⟩ := h
  refine sl_tupA pins s σ H _ v vl vu lo hi sl Q I rx hs pl pu ⟨a, xs, rfl, SqT.of h, fun e => q a H (Same.refl H) ?_, fun _ p np => q p _ (snew np) upd_same⟩
  unfold cutV
  rw [e.1, e.2, List.drop_zero, Nat.sub_zero, List.take_length]
  exact h
def rCatG : R2 := fun x y H Q => ∃ a b xs ys, x = .ref a ∧ y = .ref b ∧ H a = some (.tup xs) ∧ H b = some (.tup ys) ∧ xs ≠ [] ∧ xs.length + ys.length ≤ 1001 ∧ ∀ p H', Same H H' → H' p = some (.tup (xs ++ ys)) → Q (.ref p) H'
theorem op_catG {X : Cx} : OpR X (binaryOp .Add) rCatG := fun pins s σ H x y v u Q I rx ry ⟨a, b, xs, ys, e1, e2, h1, h2, h3, h4, q⟩ =>
  op_catT pins s σ H x y v u Q I rx ry ⟨a, b, xs, ys, e1, e2, SqT.of h1, SqT.of h2, h3, Nat.le_trans h4 small_line', fun e => q a H (Same.refl H) (by rw [e, List.append_nil]; exact h1), fun _ p np => q p _ (snew np) upd_same⟩
section
variable {w : World} {K : Fg} {mg : Str → Option Value} {base : Heap}
theorem cut_hi {xs : List V} {v : Int} {k : Nat} (h : v = (k : Int)) (hk : k ≤ xs.length) : cutV xs none (some v) = xs.take k := by
  subst h
  unfold cutV
  rw [HT.sIx_none, HT.sIx_nat, List.drop_zero, Nat.sub_zero, Nat.min_eq_left hk]
theorem cut_lo {xs : List V} {v : Int} {k : Nat} (h : v = (k : Int)) (hk : k ≤ xs.length) : cutV xs (some v) none = xs.drop k := by
  subst h
  unfold cutV
  rw [HT.sIx_none, HT.sIx_nat, Nat.min_eq_left hk, List.take_of_length_le (by rw [List.length_drop]; exact Nat.le_refl _)]
theorem str0 {z : Str} (h : z.length = 0) : z = "" := by
  obtain ⟨c⟩ := z
  have h2 : c.size = 0 := h
  have h3 : c = #[] := Array.eq_empty_of_size_eq_zero h2
  subst h3
  decide +kernel
def zAny (z : Str) : Bool := !decide (z = "put") && !decide (z = "without") && !decide (z = "write") && !decide (z = "erase") && !decide (z = "ask") && !decide (z = "undo") && !decide (z = "attempt")
theorem badZ {H : Hp} {z : Str} {r : List V} (h : zAny z = true) : BadDeed K H (.str z :: r) := by
  refine badS rfl ?_
  unfold zAny at h
  unfold badLen
  obtain ⟨h, h7⟩ := Bool.and_eq_true_iff.mp h
  obtain ⟨h, h6⟩ := Bool.and_eq_true_iff.mp h
  obtain ⟨h, h5⟩ := Bool.and_eq_true_iff.mp h
  obtain ⟨h, h4⟩ := Bool.and_eq_true_iff.mp h
  obtain ⟨h, h3⟩ := Bool.and_eq_true_iff.mp h
  obtain ⟨h1, h2⟩ := Bool.and_eq_true_iff.mp h
  have f : ∀ {a b : Bool}, (!a) = true → (!(a && b)) = true := fun {a b} y => by
    cases a with
    | true => cases y
    | false => rfl
  rw [f h1, f h2, f h3, f h4, f h5, f h6, f h7]
  rfl
theorem headBad {H : Hp} {pu : Addr} (hp : H pu = some (.tup [.str "put"])) : ∀ (j : Nat) (x : V), ([.str "Put", .str "puts", .str "", .non, .int 3, .bl true, .ref pu, .str "put ", .str "under"] : List V)[j]? = some x → ∀ r, BadDeed K H (x :: r)
  | 0, x, h, r => by obtain rfl := Option.some.inj h; exact badZ (by decide +kernel)
  | 1, x, h, r => by obtain rfl := Option.some.inj h; exact badZ (by decide +kernel)
  | 2, x, h, r => by obtain rfl := Option.some.inj h; exact badZ (by decide +kernel)
  | 3, x, h, r => by obtain rfl := Option.some.inj h; exact .inr (.inl ⟨_, _, rfl, ntNon kB2⟩)
  | 4, x, h, r => by obtain rfl := Option.some.inj h; exact .inr (.inl ⟨_, _, rfl, ntInt kB1⟩)
  | 5, x, h, r => by obtain rfl := Option.some.inj h; exact .inr (.inl ⟨_, _, rfl, ntBl kB3⟩)
  | 6, x, h, r => by obtain rfl := Option.some.inj h; exact .inr (.inl ⟨_, _, rfl, ntTup hp kB4⟩)
  | 7, x, h, r => by obtain rfl := Option.some.inj h; exact badZ (by decide +kernel)
  | 8, x, h, r => by obtain rfl := Option.some.inj h; exact badZ (by decide +kernel)
  | j + 9, x, h, r => by cases h
theorem butF {H H' : Hp} {f : Addr} {o : HO} (e : upd H f o = H') : But f H H' ∧ H' f = some o := by
  subst e
  exact ⟨(But.of_same (Same.refl H)).upd, upd_same⟩
def spSpoilt (K : Fg) : Sp := fun vs H Q _ => ∃ f, vs = [.ref f] ∧ FeedAt H f ∧ ∀ t xs H', But f H H' → FeedAt H' f → H' t = some (.tup xs) → (∀ H'', KT H' H'' → BadDeed K H'' xs) → Q (.ref t) H'
theorem ok_spoilt (T : TX K mg) : FnG w K mg base CX0 4 (a_law_spoilt K) P_law_spoilt [] (spSpoilt K) := by
  obtain ⟨fd, F⟩ := T.D_law_spoilt
  obtain ⟨fP, dP, GP, bP, vP, kP⟩ := ok_pick (w := w) (base := base) T
  obtain ⟨fD, dD, GD, bD, vD, kD⟩ := ok_draw (w := w) (base := base) T
  obtain ⟨fR, dR, GR, bR, vR, kR⟩ := ok_right (w := w) (base := base) T
  obtain ⟨fW, dW, GW, bW, vW, kW⟩ := ok_wrong (w := w) (base := base) T
  cases vP
  cases vD
  cases vR
  cases vW
  refine ⟨fd, [], F.ok sc_law_spoilt (fun vs H Q E h => ?_) (fun cdv A outer s H vs Q E hr h => ?_), F.bindsN fun _ _ _ _ _ _ us hl => match us, hl with | [_], _ => rfl, .nil, F.kp⟩
  · obtain ⟨f, rfl, _⟩ := h
    rfl
  · obtain ⟨f, rfl, hf, q⟩ := h
    have hu := hu_of hr
    have hr3 := hr
    have hr2 : Room 2 _ := hr.mono (by decide)
    have hr1 : Room 1 _ := hr.mono (by decide)
    refine ⟨_, (pss_cons (ps_asg (pe_call GP hr2 (by rfl) T.g_law_pick kP bP .nil pass0 (pa_cons (pv 0) (pa_cons (pe_call0 GR hr3 (by rfl) T.g_law_right_deeds kR bR .nil pass0) pa_nil))) (pg_tup rfl (pgs_cons (pg_name (i := 1) sc_law_spoilt.nd rfl (Or.inl rfl)) (pgs_cons (pg_name (i := 2) sc_law_spoilt.nd rfl (Or.inl rfl)) pgs_nil)))) (pss_cons (ps_set (i := 3) sc_law_spoilt.nd rfl (.inl rfl) (pe_call GD hr1 (by rfl) T.g_law_draw kD bD .nil pass0 (pa_cons (pv 0) (pa_cons pe_int pa_nil)))) (pss_cons (ps_if (pt_cmpR op_eq (pv 3) pe_int (nomark _)) (pss_one (ps_ret (pe_slice sl_tupG (pv 1) po_none (po_some (pe_op op_sub (pe_callB call_len_seq (by rfl) T.n_len boot_len (pa_cons (pv 1) pa_nil)) pe_int))))) pss_nil) (pss_cons (ps_if (pt_cmpR op_eq (pv 3) pe_int (nomark _)) (pss_one (ps_ret (pe_op op_catG (pv 1) (pe_tupA (pa_cons (pe_call GP hr2 (by rfl) T.g_law_pick kP bP .nil pass0 (pa_cons (pv 0) (pa_cons (pe_lstA (pa_cons pe_str (pa_cons pe_str (pa_cons pe_non (pa_cons pe_int (pa_cons (pe_tupA pa_nil) (pa_cons pe_str pa_nil))))))) pa_nil))) pa_nil))))) pss_nil) (pss_cons (ps_if (PW.pt (pw_or (pt_cmpR op_eq (pv 3) pe_int (nomark _)) (pw_or1 (pt_cmpR op_eq (pv 2) pe_str (nomark _))))) (pss_one (ps_ret (pe_op op_catG (pe_tupA (pa_cons (pe_call GP hr2 (by rfl) T.g_law_pick kP bP .nil pass0 (pa_cons (pv 0) (pa_cons (pe_lstA (pa_cons pe_str (pa_cons pe_str (pa_cons pe_str (pa_cons pe_non (pa_cons pe_int (pa_cons pe_bl (pa_cons (pe_tupA (pa_cons pe_str pa_nil)) (pa_cons pe_str (pa_cons pe_str pa_nil)))))))))) pa_nil))) pa_nil)) (pe_slice sl_tupG (pv 1) (po_some pe_int) po_none)))) pss_nil) (pss_cons (ps_set (i := 4) sc_law_spoilt.nd rfl (.inl rfl) (pe_call GD hr1 (by rfl) T.g_law_draw kD bD .nil pass0 (pa_cons (pv 0) (pa_cons (pe_callB call_len_str (by rfl) T.n_len boot_len (pa_cons (pv 2) pa_nil)) pa_nil)))) (pss_cons (ps_set (i := 5) sc_law_spoilt.nd rfl (.inl rfl) (pe_dget hu (pe_call0 GW hr1 (by rfl) T.g_law_wrong_items kW bW .nil pass0) (pe_ix ix_str (pv 2) (pv 4) (fun _ _ => rfl)) (fun _ _ => rfl))) (pss_one (ps_ret (pe_op op_catG (pe_op op_catG (pe_slice sl_tupG (pv 1) po_none (po_some (pe_op op_add (pv 4) pe_int))) (pe_tupA (pa_cons (pe_call GP hr2 (by rfl) T.g_law_pick kP bP .nil pass0 (pa_cons (pv 0) (pa_cons (pv 5) pa_nil))) pa_nil))) (pe_slice sl_tupG (pv 1) (po_some (pe_op op_add (pv 4) pe_int)) po_none))))))))))), ?_⟩
    obtain ⟨a0, b0, hf0⟩ := hf
    refine ⟨_, rfl, rfl, fun l H1 s1 nl R => ?_⟩
    obtain ⟨ps, hl, h9, R⟩ := R
    have lf : l ≠ f := (ne_of_none hf0 nl).symm
    have hf1 := s1 _ _ hf0
    have ln : (ps.map V.ref).length = 9 := by rw [List.length_map]; exact h9
    refine ⟨f, l, _, _, _, rfl, hf1, hl, lf, by rw [ln]; decide, by rw [ln]; decide, fun j x a2 b2 hj => ?_⟩
    generalize e2 : upd H1 f (.lst [.int a2, .int b2]) = H2
    obtain ⟨bt2, hf2⟩ := butF e2
    rw [List.getElem?_map] at hj
    cases hp : ps[j]? with
    | none => rw [hp] at hj; cases hj
    | some p =>
      rw [hp] at hj
      obtain rfl := Option.some.inj hj
      obtain ⟨t, z, hz, h2, rd⟩ := R j p hp
      obtain ⟨d, ht, ok⟩ := deed_ok T rd hz
      have k2 := KT.of_but bt2 hf1
      refine ⟨p, _, rfl, SqT.of (k2.tup h2), rfl, _, _, rfl, _, _, rfl, rfl, ?_⟩
      refine ⟨_, rfl, f, 6, _, _, rfl, by decide, by decide, hf2, fun fm a3 b3 hfm => ?_⟩
      generalize e3 : upd H2 f (.lst [.int a3, .int b3]) = H3
      obtain ⟨bt3, hf3⟩ := butF e3
      have k3 : KT H1 H3 := k2.trans (KT.of_but bt3 hf2)
      have bb3 : But f H H3 := ((But.of_same s1).trans bt2).trans bt3
      have ht3 := k3.tup ht
      have hsm := ok.small
      refine ⟨_, rfl, rfl, _, rfl, ?_⟩
      by_cases c0 : V.int (fm : Int) = V.int 0
      · refine iteT2 (decide_eq_true c0) ?_
        refine ⟨_, rfl, _, rfl, t, d, rfl, .inr (SqT.of ht3), _, _, rfl, rfl, _, rfl, t, d, rfl, ht3, fun p' H4 s4 h4 => ?_⟩
        have h4' : H4 p' = some (.tup d.dropLast) := by
          rw [h4, cut_hi (k := d.length - 1) (by have := ok.len; omega) (by omega), List.dropLast_eq_take]
        exact q p' _ H4 (bb3.trans (But.of_same s4)) ⟨a3, b3, s4 _ _ hf3⟩ h4' fun H'' _ => ok.b0 H''
      refine iteF2 (decide_eq_false c0) ?_
      refine ⟨_, rfl, rfl, _, rfl, ?_⟩
      by_cases c1 : V.int (fm : Int) = V.int 1
      · refine iteT2 (decide_eq_true c1) ?_
        refine ⟨_, rfl, _, rfl, (by decide : 0 ≤ 1001), ?_⟩
        intro pu H4 n4 s4 f4
        refine ⟨(by decide : 6 ≤ 1001), ?_⟩
        intro le H5 n5 s5 f5
        refine ⟨f, le, _, _, _, rfl, s5 _ _ (s4 _ _ hf3), f5, (ne_of_none (s4 _ _ hf3) n5).symm, (by decide : 0 < 6), (by decide : 6 < 1000), fun j' x a6 b6 hx => ?_⟩
        generalize e6 : upd H5 f (.lst [.int a6, .int b6]) = H6
        obtain ⟨bt6, hf6⟩ := butF e6
        have k36 : KT H3 H6 := (KT.of_same (s4.trans s5)).trans (KT.of_but bt6 (s5 _ _ (s4 _ _ hf3)))
        refine ⟨(by decide : 1 ≤ 1001), ?_⟩
        intro px H7 n7 s7 f7
        have ht7 := s7 _ _ (k36.tup ht3)
        have dne : d ≠ [] := by
          intro y
          have := ok.len
          rw [y] at this
          cases this
        refine ⟨t, px, d, [x], rfl, rfl, ht7, f7, dne, (by show d.length + 1 ≤ 1001; omega), fun p' H8 s8 h8 => ?_⟩
        exact q p' _ H8 (((bb3.trans (But.of_same (s4.trans s5))).trans bt6).trans (But.of_same (s7.trans s8))) ⟨a6, b6, s8 _ _ (s7 _ _ hf6)⟩ h8 fun H'' _ => ok.b1 H'' x
      refine iteF2 (decide_eq_false c1) ?_
      refine ⟨_, rfl, rfl, _, rfl, ?_⟩
      by_cases c2 : V.int (fm : Int) = V.int 2
      · refine iteT2 (decide_eq_true c2) (iteT2 rfl ?_)
        · refine (by decide : 1 ≤ 1001) |> fun z1 => ⟨_, rfl, z1, ?_⟩
          intro pu H4 n4 s4 f4
          refine ⟨(by decide : 9 ≤ 1001), ?_⟩
          intro le H5 n5 s5 f5
          refine ⟨f, le, _, _, _, rfl, s5 _ _ (s4 _ _ hf3), f5, (ne_of_none (s4 _ _ hf3) n5).symm, (by decide : 0 < 9), (by decide : 9 < 1000), fun j' x a6 b6 hx => ?_⟩
          generalize e6 : upd H5 f (.lst [.int a6, .int b6]) = H6
          obtain ⟨bt6, hf6⟩ := butF e6
          have k36 : KT H3 H6 := (KT.of_same (s4.trans s5)).trans (KT.of_but bt6 (s5 _ _ (s4 _ _ hf3)))
          refine ⟨(by decide : 1 ≤ 1001), ?_⟩
          intro px H7 n7 s7 f7
          have ht7 := s7 _ _ (k36.tup ht3)
          refine ⟨_, rfl, _, rfl, t, d, rfl, ht7, fun p2 H8 s8 h8 => ?_⟩
          have cl := cutV_length d (some 1) none
          refine ⟨px, p2, [x], _, rfl, rfl, s8 _ _ f7, h8, by simp, (by show 1 + (cutV d (some 1) none).length ≤ 1001; omega), fun p' H9 s9 h9 => ?_⟩
          refine q p' _ H9 (((bb3.trans (But.of_same (s4.trans s5))).trans bt6).trans (But.of_same ((s7.trans s8).trans s9))) ⟨a6, b6, s9 _ _ (s8 _ _ (s7 _ _ hf6))⟩ h9 fun H10 k10 => ?_
          have hpu : H10 pu = some (.tup [.str "put"]) := k10.tup (s9 _ _ (s8 _ _ (s7 _ _ ((KT.of_but bt6 (s5 _ _ (s4 _ _ hf3))).tup (s5 _ _ f4)))))
          exact headBad hpu j' x hx _
      refine iteF2 (decide_eq_false c2) ⟨_, rfl, rfl, _, rfl, ?_⟩
      by_cases c3 : V.str z = V.str ""
      · refine iteT2 (decide_eq_true c3) ?_
        · refine (by decide : 1 ≤ 1001) |> fun z1 => ⟨_, rfl, z1, ?_⟩
          intro pu H4 n4 s4 f4
          refine ⟨(by decide : 9 ≤ 1001), ?_⟩
          intro le H5 n5 s5 f5
          refine ⟨f, le, _, _, _, rfl, s5 _ _ (s4 _ _ hf3), f5, (ne_of_none (s4 _ _ hf3) n5).symm, (by decide : 0 < 9), (by decide : 9 < 1000), fun j' x a6 b6 hx => ?_⟩
          generalize e6 : upd H5 f (.lst [.int a6, .int b6]) = H6
          obtain ⟨bt6, hf6⟩ := butF e6
          have k36 : KT H3 H6 := (KT.of_same (s4.trans s5)).trans (KT.of_but bt6 (s5 _ _ (s4 _ _ hf3)))
          refine ⟨(by decide : 1 ≤ 1001), ?_⟩
          intro px H7 n7 s7 f7
          have ht7 := s7 _ _ (k36.tup ht3)
          refine ⟨_, rfl, _, rfl, t, d, rfl, ht7, fun p2 H8 s8 h8 => ?_⟩
          have cl := cutV_length d (some 1) none
          refine ⟨px, p2, [x], _, rfl, rfl, s8 _ _ f7, h8, by simp, (by show 1 + (cutV d (some 1) none).length ≤ 1001; omega), fun p' H9 s9 h9 => ?_⟩
          refine q p' _ H9 (((bb3.trans (But.of_same (s4.trans s5))).trans bt6).trans (But.of_same ((s7.trans s8).trans s9))) ⟨a6, b6, s9 _ _ (s8 _ _ (s7 _ _ hf6))⟩ h9 fun H10 k10 => ?_
          have hpu : H10 pu = some (.tup [.str "put"]) := k10.tup (s9 _ _ (s8 _ _ (s7 _ _ ((KT.of_but bt6 (s5 _ _ (s4 _ _ hf3))).tup (s5 _ _ f4)))))
          exact headBad hpu j' x hx _
      refine iteF2 (decide_eq_false c3) ?_
      have zl : z.cps.toList.length = z.length := by show z.cps.toList.length = z.cps.size; simp
      have z0 : 0 < z.length := by
        rcases Nat.eq_zero_or_pos z.length with y | y
        · exact absurd (congrArg V.str (str0 y)) c3
        · exact y
      have zz := ok.zs
      have zsz : z.length ≤ sizeLine := Nat.le_trans (by omega : z.length ≤ 1001) small_line'
      refine ⟨_, rfl, _, rfl, z, rfl, zsz, f, z.length, _, _, rfl, z0, ?_, hf3, fun i a4 b4 hi => ?_⟩
      · have := ok.len
        omega
      generalize e4 : upd H3 f (.lst [.int a4, .int b4]) = H4
      obtain ⟨bt4, hf4⟩ := butF e4
      have k14 := k3.trans (KT.of_but bt4 hf3)
      refine ⟨rfl, fun wd H5 s5 W => ?_⟩
      obtain ⟨c, hc⟩ : ∃ c, z.cps.toList[i]? = some c := ⟨_, List.getElem?_eq_getElem (by omega)⟩
      obtain ⟨P, sel, bad⟩ := ok.b3 i c hc
      obtain ⟨kvs, lw, xs, hw, hv, hlw, nlw, x0, x1, hall⟩ := sel _ _ _ W
      have dg := DGet.k (k := kS ⟨#[c]⟩) hw
      rw [hv] at dg
      refine ⟨_, rfl, _, rfl, z, _, c, rfl, rfl, zsz, atI_nat hc, wd, _, rfl, dg, ?_⟩
      have k15 := k14.trans (KT.of_same s5)
      have ht5 := k15.tup ht
      refine ⟨_, rfl, _, rfl, _, _, rfl, rfl, _, rfl, t, d, rfl, ht5, fun p1 H6 s6 h6 => ?_⟩
      refine ⟨_, rfl, _, rfl, f, lw, _, _, xs, rfl, s6 _ _ (s5 _ _ hf4), s6 _ _ hlw, (ne_of_none hf4 nlw).symm, x0, x1, fun j' x a7 b7 hx => ?_⟩
      generalize e7 : upd H6 f (.lst [.int a7, .int b7]) = H7
      obtain ⟨bt7, hf7⟩ := butF e7
      have k67 := KT.of_but bt7 (s6 _ _ (s5 _ _ hf4))
      refine ⟨(by decide : 1 ≤ 1001), ?_⟩
      intro px H8 n8 s8 f8
      have hdl := ok.len
      have cl1 := cutV_length d none (some ((i : Int) + 1))
      refine ⟨p1, px, _, [x], rfl, rfl, s8 _ _ (k67.tup h6), f8, ?_, (by show (cutV d none (some ((i : Int) + 1))).length + 1 ≤ 1001; omega), fun p2 H9 s9 h9 => ?_⟩
      · rw [cut_hi (k := i + 1) (by omega) (by omega)]
        intro y
        have := congrArg List.length y
        rw [List.length_take] at this
        have y0 : ([] : List V).length = 0 := rfl
        omega
      have ht9 := s9 _ _ (s8 _ _ (k67.tup (s6 _ _ ht5)))
      refine ⟨_, rfl, _, rfl, _, _, rfl, rfl, _, rfl, t, d, rfl, ht9, fun p3 H10 s10 h10 => ?_⟩
      have cl2 := cutV_length d (some ((i : Int) + 2)) none
      refine ⟨p2, p3, _, _, rfl, rfl, s10 _ _ h9, h10, by simp, (by rw [List.length_append]; show (cutV d none (some ((i : Int) + 1))).length + 1 + (cutV d (some ((i : Int) + 2)) none).length ≤ 1001; omega), fun p4 H11 s11 h11 => ?_⟩
      have k511 : KT H5 H11 := ((KT.of_same s6).trans k67).trans (KT.of_same (((s8.trans s9).trans s10).trans s11))
      have h12 : H11 p4 = some (.tup (d.take (i + 1) ++ x :: d.drop (i + 2))) := by
        rw [h11, cut_hi (k := i + 1) (by omega) (by omega), cut_lo (k := i + 2) (by omega) (by omega), List.append_assoc]
        rfl
      refine q p4 _ H11 ((((bb3.trans bt4).trans (But.of_same (s5.trans s6))).trans bt7).trans (But.of_same (((s8.trans s9).trans s10).trans s11))) ⟨a7, b7, s11 _ _ (s10 _ _ (s9 _ _ (s8 _ _ hf7)))⟩ h12 fun H12 k12 => ?_
      exact bad H5 x k15 (hall x (List.mem_of_getElem? hx)) H12 (k511.trans k12)
end
end K98
/-! K98Nest -/
set_option Elab.async false
set_option linter.all false
set_option maxRecDepth 100000
set_option maxHeartbeats 1000000
/-! _law_nested -/
namespace K98
open PySem PySem.Spec PyProof.Rows L2
def rSlLG : V → Option Int → Option Int → Hp → VK → Prop := fun x lo hi H Q => ∃ a xs, x = .ref a ∧ H a = some (.lst xs) ∧ ∀ p H', H p = none → Same H H' → H' p = some (.lst (cutV xs lo hi)) → Q (.ref p) H'
theorem sl_lstG {X : Cx} : SlR X rSlLG := by
  intro pins s σ H x v vl vu lo hi sl Q I rx hs pl pu h
  obtain ⟨a, xs, rfl, h, q⟩ := h
  exact sl_list pins s σ H _ v vl vu lo hi sl Q I rx hs pl pu ⟨a, xs, rfl, SqL.of h, fun p np => q p _ np (snew np) upd_same⟩
section
variable {w : World} {K : Fg} {mg : Str → Option Value} {base : Heap}
theorem good_of {H0 H : Hp} {t : Addr} : ∀ {j : Nat}, j < 6 → RDAt K H0 H t j → Good K H t
  | 0, _, ⟨s, o, h, hs⟩ => .inl (.put h hs)
  | 1, _, h => .inl (.write h (.inl rfl) (by decide) (by decide +kernel) (by decide) (by decide +kernel))
  | 2, _, h => .inl (.erase h)
  | 3, _, ⟨k, h, hk⟩ => .inl (.ask h hk)
  | 4, _, h => .inl (.undo h)
  | 5, _, ⟨A, u, h, hA, hu⟩ => .inr ⟨A, u, h, hA, .write hu (.inr rfl) (by decide) (by decide +kernel) (by decide) (by decide +kernel)⟩
  | j + 6, hj, _ => by omega
def BadTs (K : Fg) (BD : Hp → Addr → List V → Prop) (H : Hp) (ts p : List V) : Prop := ∃ (pre : Nat) (t : Addr) (p' : List V), ts.length ≤ 100 ∧ pre ≤ 2 ∧ (∀ i x, i < pre → ts[i]? = some x → ∃ u, x = .ref u ∧ Good K H u) ∧ ts[pre]? = some (.ref t) ∧ BD H t p' ∧ p = .int pre :: p' ∧ p'.length ≤ 100
theorem BadTs.at {av : List Addr} {BD : Hp → Addr → List V → Prop} {H : Hp} {A : Addr} {ts p : List V} (b : BadTs K BD H ts p) (h : LT H A ts) (n : A ∉ av) : BadLs K av BD H A p :=
  let ⟨pre, t, p', h1, h2, h3, h4, h5, h6, h7⟩ := b
  ⟨ts, pre, t, p', h, n, h1, h2, h3, h4, h5, h6, h7⟩
theorem BadTs.kk {BD : Hp → Addr → List V → Prop} {H H1 : Hp} {ts p : List V} (b : BadTs K BD H ts p) (k : KT H H1) (st : ∀ t p, BD H t p → BD H1 t p) : BadTs K BD H1 ts p :=
  let ⟨pre, t, p', h1, h2, h3, h4, h5, h6, h7⟩ := b
  ⟨pre, t, p', h1, h2, fun i x hi hx => let ⟨u, e, g⟩ := h3 i x hi hx; ⟨u, e, g.kt k⟩, h4, st _ _ h5, h6, h7⟩
def Ints (p : List V) : Prop := ∀ x ∈ p, ∃ i : Nat, x = .int i
def spNest (K : Fg) (n : Nat) : Sp := fun vs H Q _ => ∃ (f ds : Addr) (av : List Addr) (t t2 : Addr) (xs : List V), vs = [.ref f, .ref ds, .int n] ∧ FeedAt H f ∧ H ds = some (.lst [.ref t, .ref t2]) ∧ ds ≠ f ∧ f ∈ av ∧ (∀ a ∈ av, ∃ o, H a = some o) ∧ H t = some (.tup xs) ∧ (∀ H', KT H H' → BadDeed K H' xs) ∧
  ∀ r A pw ts p H', But f H H' → FeedAt H' f → H' r = some (.tup [.ref A, .ref pw]) → H A = none → H' A = some (.lst ts) → H' pw = some (.tup p) → p.length = n + 1 → Ints p → BadTs K (BadDd K av n) H' ts p → Q (.ref r) H'
def tAhead (K : Fg) : TS := tAsg (tLc (iRng1 (tCons (tCall spDraw [] E0 (tCons (tVar 0) (tCons (tC (V.int 3)) tNil))) tNil)) (gName 4) tYes (tOp (rIxT K) (tCall (spPick K) [] E0 (tCons (tVar 0) (tCons (tSl rSlLG (tCall (spRight K) [] E0 tNil) tNoPart (tPart (tC (V.int 6)))) tNil))) (tC (V.int 0))) [4]) (gName 3)
theorem ahead {D : Ends} {f : Addr} {y1 y2 y3 y4 y5 y6 y7 : Option V} {H : Hp} (hf : FeedAt H f)
    (q : ∀ Da acc H', But f H H' → FeedAt H' f → H Da = none → H' Da = some (.lst acc) → acc.length ≤ 2 → (∀ x ∈ acc, ∃ u, x = V.ref u ∧ Good K H' u) → D.nx [some (.ref f), y1, y2, some (.ref Da), y4, y5, y6, y7] H') : tAhead K D [some (.ref f), y1, y2, y3, y4, y5, y6, y7] H := by
  obtain ⟨a0, b0, hf⟩ := hf
  refine ⟨_, rfl, f, 3, a0, b0, rfl, by decide, by decide, hf, fun n a1 b1 hn => ⟨n, rfl, by omega, by omega, ?_⟩⟩
  generalize e1 : upd H f (.lst [.int a1, .int b1]) = H1
  obtain ⟨bt1, hf1⟩ := butF e1
  intro Da nDa
  have Df : Da ≠ f := (ne_of_none hf1 nDa).symm
  have nDH : H Da = none := bt1.free Df nDa
  refine lc_it (walk_range (lo := 0) (n := ((n : Int)).toNat)) (fun i H' => But f H H' ∧ FeedAt H' f ∧ ∃ acc : List V, H' Da = some (.lst acc) ∧ acc.length = i ∧ ∀ x ∈ acc, ∃ u, x = V.ref u ∧ Good K H' u) ⟨bt1.new nDa, ⟨a1, b1, by rw [upd_ne Df.symm]; exact hf1⟩, [], upd_same, rfl, fun x hx => absurd hx (by simp)⟩ (fun _ _ _ _ => trivial) ?_ ?_
  · rintro i x H2z H2 hi ⟨b2, ⟨a2, c2, hf2⟩, acc, hd, hl, hall⟩ ⟨rfl, rfl⟩
    refine ⟨rfl, ?_⟩
    unfold tYes
    dsimp only
    rw [if_pos rfl]
    refine ⟨_, rfl, rfl, fun l H3 s3 nl R => ?_⟩
    obtain ⟨ps, hl3, h9, R⟩ := R
    have ln : (ps.map V.ref).length = 9 := by rw [List.length_map]; exact h9
    refine ⟨_, rfl, l, _, rfl, hl3, fun l6 H4 n4 s4 f4 => ?_⟩
    rw [cut_hi (v := (6 : Int)) (k := 6) rfl (by rw [ln]; decide)] at f4
    have hf3 := s3 _ _ hf2
    have hf4 := s4 _ _ hf3
    have l6f : l6 ≠ f := (ne_of_none hf3 n4).symm
    have ln6 : ((ps.map V.ref).take 6).length = 6 := by rw [List.length_take, ln]; rfl
    refine ⟨f, l6, _, _, _, rfl, hf4, f4, l6f, by rw [ln6]; decide, by rw [ln6]; decide, fun j x a5 b5 hj => ?_⟩
    generalize e5 : upd H4 f (.lst [.int a5, .int b5]) = H5
    obtain ⟨bt5, hf5⟩ := butF e5
    have j6 : j < 6 := by
      have := (List.getElem?_eq_some_iff.mp hj).1
      omega
    rw [List.getElem?_take_of_lt j6, List.getElem?_map] at hj
    cases hp : ps[j]? with
    | none => rw [hp] at hj; cases hj
    | some p =>
      rw [hp] at hj
      obtain rfl := Option.some.inj hj
      obtain ⟨t, z, hz, hpt, rd⟩ := R j p hp
      have k35 : KT H3 H5 := (KT.of_same s4).trans (KT.of_but bt5 hf4)
      have k25 : KT H2 H5 := (KT.of_same s3).trans k35
      have hd5 : H5 Da = some (.lst acc) := bt5 Da _ Df (s4 _ _ (s3 _ _ hd))
      have ku : KT H5 (upd H5 Da (.lst (acc ++ [V.ref t]))) := KT.of_but (But.of_same (Same.refl H5)).upd hd5
      refine ⟨p, _, 0, .ref t, rfl, rfl, SqT.of (k35.tup hpt), at0, acc, hd5, Nat.le_trans (by omega : acc.length + 1 ≤ 1001) small_line', fun b o hb e => ?_, ⟨a5, b5, by rw [upd_ne Df.symm]; exact hf5⟩, acc ++ [V.ref t], upd_same, by rw [List.length_append, hl]; rfl, fun x hx => ?_⟩
      · rw [upd_ne (ne_of_none e nDH)]
        exact bt5 b _ hb (s4 _ _ (s3 _ _ (b2 b o hb e)))
      · rcases List.mem_append.mp hx with hx | hx
        · obtain ⟨u, e, g⟩ := hall x hx
          exact ⟨u, e, g.kt (k25.trans ku)⟩
        · exact ⟨t, List.mem_singleton.mp hx, (good_of j6 rd).kt (k35.trans ku)⟩
  · rintro H2 ⟨b2, f2, acc, hd, hl, hall⟩
    exact q Da acc H2 b2 f2 nDH hd (by omega) hall
theorem ok_nest0 (T : TX K mg) : FnG w K mg base CX0 5 (a_law_nested K) P_law_nested [] (spNest K 0) := by
  obtain ⟨fd, F⟩ := T.D_law_nested
  obtain ⟨fP, dP, GP, bP, vP, kP⟩ := ok_pick (w := w) (base := base) T
  obtain ⟨fD, dD, GD, bD, vD, kD⟩ := ok_draw (w := w) (base := base) T
  obtain ⟨fR, dR, GR, bR, vR, kR⟩ := ok_right (w := w) (base := base) T
  cases vP
  cases vD
  cases vR
  refine ⟨fd, [], F.ok sc_law_nested (fun vs H Q E h => ?_) (fun cdv A outer s H vs Q E hr h => ?_), F.bindsN fun _ _ _ _ _ _ us hl => match us, hl with | [_, _, _], _ => rfl, .nil, F.kp⟩
  · obtain ⟨f, ds, av, t, t2, xs, rfl, _⟩ := h
    rfl
  · obtain ⟨f, ds, av, t, t2, xs, rfl, hf, hd, nf, mf, hav, ht, hb, q⟩ := h
    have hr3 : Room 3 _ := hr.mono (by decide)
    have hr2 : Room 2 _ := hr.mono (by decide)
    have hr1 : Room 1 _ := hr.mono (by decide)
    refine ⟨_, (pss_cons (ps_setLc (i := 3) (own := [("_law_turn", 4)]) (g := gName 4) (tt := tYes) rfl sc_law_nested.nd rfl rfl rfl (pi_range1 (by rfl) T.n_range (pa_cons (pe_call GD hr1 (by rfl) T.g_law_draw kD bD .nil pass0 (pa_cons (pv 0) (pa_cons pe_int pa_nil))) pa_nil)) (blkOk_by (N := N_law_nested) (sc := defScope s_law_nested) (by decide +kernel)) (fun _ _ _ _ _ => (pg_name (i := 4) sc_law_nested.nd rfl (Or.inl rfl))) (fun _ _ _ _ _ => pts_nil) (fun _ _ _ _ _ => (pe_ix (ix_tup : IxR _ (rIxT K)) (pe_call GP hr2 (by rfl) T.g_law_pick kP bP .nil pass0 (pa_cons (pv 0) (pa_cons (pe_slice sl_lstG (pe_call0 GR hr3 (by rfl) T.g_law_right_deeds kR bR .nil pass0) po_none (po_some pe_int)) pa_nil))) pe_int (fun _ _ => rfl)))) (pss_cons (ps_if (pt_cmpR op_eq (pv 2) pe_int (nomark _)) (pss_one (ps_ret (pe_tupA (pa_cons (pe_op op_catF (pv 3) (pe_callTy call_list_of (by rfl) T.n_list (by decide +kernel) (pa_cons (pv 1) pa_nil))) (pa_cons (pe_tupA (pa_cons (pe_callB call_len_seq (by rfl) T.n_len boot_len (pa_cons (pv 3) pa_nil)) pa_nil)) pa_nil))))) pss_nil) (pss_cons ps_never (pss_cons ps_never (pss_one ps_never))))), ?_⟩
    refine ahead hf fun Da acc H1 b1 f1 nD hD hal hg => ?_
    have k1 : KT H H1 := let ⟨_, _, hf0⟩ := hf; KT.of_but b1 hf0
    refine ⟨_, rfl, rfl, _, rfl, iteT2 rfl ?_⟩
    have hd1 := b1 ds _ nf hd
    refine ⟨_, rfl, _, rfl, ds, _, rfl, .inl (SqL.of hd1), fun d2 n2 => ?_⟩
    have s2 := snew (o := .lst [.ref t, .ref t2]) n2
    refine ⟨Da, d2, acc, [.ref t, .ref t2], rfl, rfl, s2 _ _ hD, upd_same, (by show acc.length + 2 ≤ 1001; omega), fun A H3 n3 s3 h3 => ?_⟩
    have s13 := s2.trans s3
    refine ⟨_, rfl, Da, acc, rfl, .inl (SqL.of (s13 _ _ hD)), (by decide : 1 ≤ 1001), fun pw H4 n4 s4 h4 => ⟨(by decide : 2 ≤ 1001), fun r H5 n5 s5 h5 => ?_⟩⟩
    have s15 := (s13.trans s4).trans s5
    have nA : H A = none := by
      have nA1 := s2.free n3
      obtain ⟨a, b, hf1⟩ := f1
      exact b1.free (ne_of_none hf1 nA1).symm nA1
    have k5 := k1.trans (KT.of_same s15)
    refine q r A pw _ _ H5 (b1.trans (But.of_same s15)) (let ⟨a, b, hf1⟩ := f1; ⟨a, b, s15 _ _ hf1⟩) h5 nA (s5 _ _ (s4 _ _ h3)) (s5 _ _ h4) rfl (fun x hx => ⟨acc.length, List.mem_singleton.mp hx⟩) ⟨acc.length, t, [], by rw [List.length_append]; show acc.length + 2 ≤ 100; omega, hal, fun i x hi hx => ?_, ?_, ⟨rfl, xs, k5.tup ht, fun H' k' => hb H' (k5.trans k')⟩, rfl, by decide⟩
    · rw [List.getElem?_append_left hi] at hx
      obtain ⟨u, e, g⟩ := hg x (List.mem_of_getElem? hx)
      exact ⟨u, e, g.kt (KT.of_same s15)⟩
    · rw [List.getElem?_append_right (Nat.le_refl _), Nat.sub_self]
      rfl
def rLen (K : Fg) : List V → Hp → VK → Prop := fun xs H_1 Q => ∃ p ys, xs = [V.ref p] ∧ (SqL K H_1 p ys ∨ SqT K H_1 p ys) ∧ Q (V.int ↑ys.length) H_1
def tNestLast (K : Fg) : TS := tRet (tTupA (tCons (tOp rCatF (tOp rCatF (tVar 3) (tLstA (tCons (tVar 7) tNil))) (tOp rRep (tLstA (tCons (tTupA (tCons (tC (V.str "undo")) tNil)) tNil)) (tCall spDraw [] E0 (tCons (tVar 0) (tCons (tC (V.int 2)) tNil))))) (tCons (tOp rCatG (tTupA (tCons (tCB (rLen K) (tCons (tVar 3) tNil)) tNil)) (tVar 6)) tNil)))
theorem nest_last {Q : VK} {nx : St → Hp → Prop} {f Da A' pw wt : Addr} {y1 y2 y4 y5 : Option V} {av : List Addr} {acc ts p : List V} {n : Nat} {H H4 : Hp} (hn : n ≤ 50) (mf : f ∈ av) (hav : ∀ a ∈ av, ∃ o, H a = some o) (b4 : But f H H4) (hf : FeedAt H4 f) (hD : H4 Da = some (.lst acc)) (Df : Da ≠ f) (hal : acc.length ≤ 2) (hg : ∀ x ∈ acc, ∃ u, x = V.ref u ∧ Good K H4 u)
    (hw : H4 wt = some (.tup [.str "attempt", .ref A'])) (hA : LT H4 A' ts) (nA : A' ∉ av) (bt : BadTs K (BadDd K av n) H4 ts p) (hp : H4 pw = some (.tup p)) (hpl : p.length = n + 1) (hpi : Ints p)
    (q : ∀ r A pw ts p H', But f H H' → FeedAt H' f → H' r = some (.tup [.ref A, .ref pw]) → H A = none → H' A = some (.lst ts) → H' pw = some (.tup p) → p.length = (n + 1) + 1 → Ints p → BadTs K (BadDd K av (n + 1)) H' ts p → Q (.ref r) H') :
    tNestLast K { nx := nx, rt := Q } [some (.ref f), y1, y2, some (.ref Da), y4, y5, some (.ref pw), some (.ref wt)] H4 := by
  obtain ⟨a4, c4, hf4⟩ := hf
  obtain ⟨oF, hF⟩ := hav f mf
  refine ⟨_, rfl, _, rfl, (by decide : 1 ≤ 1001), fun l5 H5 n5 s5 h5 => ⟨Da, l5, acc, [.ref wt], rfl, rfl, s5 _ _ hD, h5, (by show acc.length + 1 ≤ 1001; omega), fun l6 H6 n6 s6 h6 => ?_⟩⟩
  refine ⟨(by decide : 1 ≤ 1001), fun u H7 n7 s7 h7 => ⟨(by decide : 1 ≤ 1001), fun l8 H8 n8 s8 h8 => ?_⟩⟩
  have s48 := ((s5.trans s6).trans s7).trans s8
  have hf8 := s48 _ _ hf4
  refine ⟨_, rfl, f, 2, a4, c4, rfl, by decide, by decide, hf8, fun c a9 b9 hc => ?_⟩
  generalize e9 : upd H8 f (.lst [.int a9, .int b9]) = H9
  obtain ⟨bt9, hf9⟩ := butF e9
  have l8f : l8 ≠ f := (ne_of_none (s7 _ _ (s6 _ _ (s5 _ _ hf4))) n8).symm
  have l6f : l6 ≠ f := (ne_of_none (s5 _ _ hf4) n6).symm
  have hR : ((List.replicate (c : Int).toNat [V.ref u]).flatten).length ≤ 2 := by
    have : c = 0 ∨ c = 1 := by omega
    rcases this with rfl | rfl
    · exact Nat.zero_le _
    · exact (by decide : 1 ≤ 2)
  generalize eR : (List.replicate (c : Int).toNat [V.ref u]).flatten = R9 at hR
  refine ⟨l8, c, _, rfl, rfl, bt9 _ _ l8f h8, by omega, by omega, Nat.le_trans (by show 1 * (c : Int).toNat ≤ 1001; omega) small_line', fun l10 n10 => ?_⟩
  rw [eR]
  have s10 := snew (o := .lst R9) n10
  have h6' := s10 _ _ (bt9 _ _ l6f (s8 _ _ (s7 _ _ h6)))
  refine ⟨l6, l10, acc ++ [.ref wt], R9, rfl, rfl, h6', upd_same, (by rw [List.length_append]; show acc.length + 1 + R9.length ≤ 1001; omega), fun A3 H11 n11 s11 h11 => ?_⟩
  have hD11 := s11 _ _ (s10 _ _ (bt9 _ _ Df (s48 _ _ hD)))
  refine ⟨_, rfl, Da, acc, rfl, .inl (SqL.of hD11), (by decide : 1 ≤ 1001), fun lt H12 n12 s12 h12 => ⟨_, rfl, lt, pw, _, p, rfl, rfl, h12, ?_, by simp, (by show 1 + p.length ≤ 1001; omega), fun pw2 H13 s13 h13 => ⟨(by decide : 2 ≤ 1001), fun r H14 n14 s14 h14 => ?_⟩⟩⟩
  · exact s12 _ _ (s11 _ _ (s10 _ _ ((KT.of_but bt9 hf8).tup (s48 _ _ hp))))
  have sE := (s12.trans s13).trans s14
  have kk : KK av H4 H14 := ((KK.of_same s48).trans (KK.of_but bt9 hf8 mf)).trans (KK.of_same ((s10.trans s11).trans sE))
  have bb : But f H H14 := ((b4.trans (But.of_same s48)).trans bt9).trans (But.of_same ((s10.trans s11).trans sE))
  have nA3 : H A3 = none := by
    have y := s10.free n11
    exact ((b4.trans (But.of_same s48)).trans bt9).free (ne_of_none hf9 y).symm y
  refine q r A3 pw2 _ _ H14 bb ⟨a9, b9, sE _ _ (s11 _ _ (s10 _ _ hf9))⟩ h14 nA3 (sE _ _ h11) (s14 _ _ h13) (by show p.length + 1 = _; omega) (fun x hx => ?_) ⟨acc.length, wt, p, ?_, hal, fun i x hi hx => ?_, ?_, ⟨A', kk.1.tup hw, (bt.kk kk.1 (BadDd.kk kk n)).at (hA.kk nA kk) nA⟩, rfl, by omega⟩
  · rcases List.mem_cons.mp hx with hx | hx
    · exact ⟨acc.length, hx⟩
    · exact hpi x hx
  · rw [List.length_append, List.length_append]
    show acc.length + 1 + R9.length ≤ 100
    omega
  · rw [List.append_assoc, List.getElem?_append_left hi] at hx
    obtain ⟨v, e, g⟩ := hg x (List.mem_of_getElem? hx)
    exact ⟨v, e, g.kt kk.1⟩
  · rw [List.append_assoc, List.getElem?_append_right (Nat.le_refl _), Nat.sub_self]
    rfl
def spNestLe (K : Fg) (m : Nat) : Sp := fun vs H Q E => ∃ n, n ≤ m ∧ spNest K n vs H Q E
theorem ok_nestS (T : TX K mg) {k m : Nat} (hk : 5 ≤ k) (hm : m ≤ 50) (GN : FnG w K mg base CX0 k (a_law_nested K) P_law_nested [] (spNestLe K m)) : FnG w K mg base CX0 (k + 1) (a_law_nested K) P_law_nested [] (spNestLe K (m + 1)) := by
  obtain ⟨fd, F⟩ := T.D_law_nested
  obtain ⟨fN, dN, GN, bN, vN, kN⟩ := GN
  obtain ⟨fP, dP, GP, bP, vP, kP⟩ := ok_pick (w := w) (base := base) T
  obtain ⟨fD, dD, GD, bD, vD, kD⟩ := ok_draw (w := w) (base := base) T
  obtain ⟨fR, dR, GR, bR, vR, kR⟩ := ok_right (w := w) (base := base) T
  cases vN
  cases vP
  cases vD
  cases vR
  refine ⟨fd, [], F.ok sc_law_nested (fun vs H Q E h => ?_) (fun cdv A outer s H vs Q E hr h => ?_), F.bindsN fun _ _ _ _ _ _ us hl => match us, hl with | [_, _, _], _ => rfl, .nil, F.kp⟩
  · obtain ⟨n, _, f, ds, av, t, t2, xs, rfl, _⟩ := h
    rfl
  · obtain ⟨n0, hn0, f, ds, av, t, t2, xs, rfl, hf, hd, nf, mf, hav, ht, hb, q⟩ := h
    have hrN := hr
    have hr3 : Room 3 _ := hr.mono (by omega)
    have hr2 : Room 2 _ := hr.mono (by omega)
    have hr1 : Room 1 _ := hr.mono (by omega)
    refine ⟨_, (pss_cons (ps_setLc (i := 3) (own := [("_law_turn", 4)]) (g := gName 4) (tt := tYes) rfl sc_law_nested.nd rfl rfl rfl (pi_range1 (by rfl) T.n_range (pa_cons (pe_call GD hr1 (by rfl) T.g_law_draw kD bD .nil pass0 (pa_cons (pv 0) (pa_cons pe_int pa_nil))) pa_nil)) (blkOk_by (N := N_law_nested) (sc := defScope s_law_nested) (by decide +kernel)) (fun _ _ _ _ _ => (pg_name (i := 4) sc_law_nested.nd rfl (Or.inl rfl))) (fun _ _ _ _ _ => pts_nil) (fun _ _ _ _ _ => (pe_ix (ix_tup : IxR _ (rIxT K)) (pe_call GP hr2 (by rfl) T.g_law_pick kP bP .nil pass0 (pa_cons (pv 0) (pa_cons (pe_slice sl_lstG (pe_call0 GR hr3 (by rfl) T.g_law_right_deeds kR bR .nil pass0) po_none (po_some pe_int)) pa_nil))) pe_int (fun _ _ => rfl)))) (pss_cons (ps_if (pt_cmpR op_eq (pv 2) pe_int (nomark _)) (pss_one (ps_ret (pe_tupA (pa_cons (pe_op op_catF (pv 3) (pe_callTy call_list_of (by rfl) T.n_list (by decide +kernel) (pa_cons (pv 1) pa_nil))) (pa_cons (pe_tupA (pa_cons (pe_callB call_len_seq (by rfl) T.n_len boot_len (pa_cons (pv 3) pa_nil)) pa_nil)) pa_nil))))) pss_nil) (pss_cons (ps_asg (pe_call GN hrN (by rfl) T.g_law_nested kN bN .nil pass0 (pa_cons (pv 0) (pa_cons (pv 1) (pa_cons (pe_op op_sub (pv 2) pe_int) pa_nil)))) (pg_tup rfl (pgs_cons (pg_name (i := 5) sc_law_nested.nd rfl (Or.inl rfl)) (pgs_cons (pg_name (i := 6) sc_law_nested.nd rfl (Or.inl rfl)) pgs_nil)))) (pss_cons (ps_set (i := 7) sc_law_nested.nd rfl (.inl rfl) (pe_tupA (pa_cons pe_str (pa_cons (pe_ifExp (pt_cmpR op_eq (pe_call GD hr1 (by rfl) T.g_law_draw kD bD .nil pass0 (pa_cons (pv 0) (pa_cons pe_int pa_nil))) pe_int (nomark _)) (pv 5) (pe_callTy call_tuple_of (by rfl) T.n_tuple (by decide +kernel) (pa_cons (pv 5) pa_nil))) pa_nil)))) (pss_one (ps_ret (pe_tupA (pa_cons (pe_op op_catF (pe_op op_catF (pv 3) (pe_lstA (pa_cons (pv 7) pa_nil))) (pe_op op_rep (pe_lstA (pa_cons (pe_tupA (pa_cons pe_str pa_nil)) pa_nil)) (pe_call GD hr1 (by rfl) T.g_law_draw kD bD .nil pass0 (pa_cons (pv 0) (pa_cons pe_int pa_nil))))) (pa_cons (pe_op op_catG (pe_tupA (pa_cons (pe_callB call_len_seq (by rfl) T.n_len boot_len (pa_cons (pv 3) pa_nil)) pa_nil)) (pv 6)) pa_nil))))))))), ?_⟩
    cases n0 with
    | zero =>
      refine ahead hf fun Da acc H1 b1 f1 nD hD hal hg => ?_
      have k1 : KT H H1 := let ⟨_, _, hf0⟩ := hf; KT.of_but b1 hf0
      refine ⟨_, rfl, rfl, _, rfl, iteT2 rfl ?_⟩
      have hd1 := b1 ds _ nf hd
      refine ⟨_, rfl, _, rfl, ds, _, rfl, .inl (SqL.of hd1), fun d2 n2 => ?_⟩
      have s2 := snew (o := .lst [.ref t, .ref t2]) n2
      refine ⟨Da, d2, acc, [.ref t, .ref t2], rfl, rfl, s2 _ _ hD, upd_same, (by show acc.length + 2 ≤ 1001; omega), fun A H3 n3 s3 h3 => ?_⟩
      have s13 := s2.trans s3
      refine ⟨_, rfl, Da, acc, rfl, .inl (SqL.of (s13 _ _ hD)), (by decide : 1 ≤ 1001), fun pw H4 n4 s4 h4 => ⟨(by decide : 2 ≤ 1001), fun r H5 n5 s5 h5 => ?_⟩⟩
      have s15 := (s13.trans s4).trans s5
      have nA : H A = none := by
        have nA1 := s2.free n3
        obtain ⟨a, b, hf1⟩ := f1
        exact b1.free (ne_of_none hf1 nA1).symm nA1
      have k5 := k1.trans (KT.of_same s15)
      refine q r A pw _ _ H5 (b1.trans (But.of_same s15)) (let ⟨a, b, hf1⟩ := f1; ⟨a, b, s15 _ _ hf1⟩) h5 nA (s5 _ _ (s4 _ _ h3)) (s5 _ _ h4) rfl (fun x hx => ⟨acc.length, List.mem_singleton.mp hx⟩) ⟨acc.length, t, [], by rw [List.length_append]; show acc.length + 2 ≤ 100; omega, hal, fun i x hi hx => ?_, ?_, ⟨rfl, xs, k5.tup ht, fun H' k' => hb H' (k5.trans k')⟩, rfl, by decide⟩
      · rw [List.getElem?_append_left hi] at hx
        obtain ⟨u, e, g⟩ := hg x (List.mem_of_getElem? hx)
        exact ⟨u, e, g.kt (KT.of_same s15)⟩
      · rw [List.getElem?_append_right (Nat.le_refl _), Nat.sub_self]
        rfl
    | succ n =>
      refine ahead hf fun Da acc H1 b1 f1 nD hD hal hg => ?_
      obtain ⟨a0, c0, hf0⟩ := hf
      have k1 : KT H H1 := KT.of_but b1 hf0
      refine ⟨_, rfl, rfl, _, rfl, iteF2 (decide_eq_false fun y => by have y2 := V.int.inj y; omega) ?_⟩
      have hd1 := b1 ds _ nf hd
      have Df : Da ≠ f := (ne_of_none hf0 nD).symm
      have en : (((n + 1 : Nat) : Int)) - 1 = (n : Int) := by omega
      refine ⟨_, rfl, _, rfl, _, rfl, _, _, rfl, rfl, n, Nat.le_of_succ_le_succ hn0, f, ds, av, t, t2, xs, ?_, f1, hd1, nf, mf, ?_, k1.tup ht, fun H' k' => hb H' (k1.trans k'), fun r A pw ts p H2 b2 f2 hr2' nA hA hpw hpl hpi bt => ?_⟩
      · show [V.ref f, V.ref ds, V.int (((n + 1 : Nat) : Int) - 1)] = _
        rw [en]
      · intro a ha
        obtain ⟨a1, c1, hf1⟩ := f1
        by_cases e : a = f
        · exact ⟨_, e ▸ hf1⟩
        · obtain ⟨o, ho⟩ := hav a ha
          exact ⟨o, b1 a o e ho⟩
      obtain ⟨a1, c1, hf1⟩ := f1
      have Af : A ≠ f := (ne_of_none hf1 nA).symm
      have nAH : H A = none := b1.free Af nA
      have avN : ∀ x, H x = none → x ∉ av := fun x hx hm => by
        obtain ⟨o, ho⟩ := hav x hm
        rw [hx] at ho
        cases ho
      refine ⟨r, _, rfl, SqT.of hr2', rfl, _, _, rfl, _, _, rfl, rfl, ?_⟩
      obtain ⟨a2, c2, hf2⟩ := f2
      refine ⟨_, rfl, f, 2, a2, c2, rfl, by decide, by decide, hf2, fun c a3 c3 hc => ?_⟩
      generalize e3 : upd H2 f (.lst [.int a3, .int c3]) = H3
      obtain ⟨bt3, hf3⟩ := butF e3
      have b13 : But f H1 H3 := b2.trans bt3
      have b03 : But f H H3 := b1.trans b13
      have hD3 := b13 Da _ Df hD
      have k13 : KT H1 H3 := KT.of_but b13 hf1
      have k23 : KT H2 H3 := KT.of_but bt3 hf2
      have hA3 := bt3 A _ Af hA
      have kk23 : KK av H2 H3 := KK.of_but bt3 hf2 mf
      have bt3' := bt.kk k23 (BadDd.kk kk23 n)
      refine ⟨rfl, _, rfl, iteB ?_ ?_⟩
      · refine ⟨_, rfl, (by decide : 2 ≤ 1001), fun wt H4 n4 s4 h4 => ?_⟩
        have kk34 : KK av H3 H4 := KK.of_same s4
        exact nest_last (H := H) (by omega) mf hav (b03.trans (But.of_same s4)) ⟨a3, c3, s4 _ _ hf3⟩ (s4 _ _ hD3) Df hal (fun x hx => let ⟨u, e, g⟩ := hg x hx; ⟨u, e, g.kt (k13.trans kk34.1)⟩) h4 (.inl (s4 _ _ hA3)) (avN A nAH) (bt3'.kk kk34.1 (BadDd.kk kk34 n)) (s4 _ _ (k23.tup hpw)) hpl hpi q
      · refine ⟨_, rfl, A, ts, rfl, .inl ⟨SqL.of hA3, fun A2 n2 => ?_⟩⟩
        have s2 := snew (o := .tup ts) n2
        have A2f : A2 ≠ f := (ne_of_none hf3 n2).symm
        refine ⟨(by decide : 2 ≤ 1001), fun wt H4 n4 s4' h4 => ?_⟩
        have s4 := s2.trans s4'
        have kk34 : KK av H3 H4 := KK.of_same s4
        exact nest_last (H := H) (by omega) mf hav (b03.trans (But.of_same s4)) ⟨a3, c3, s4 _ _ hf3⟩ (s4 _ _ hD3) Df hal (fun x hx => let ⟨u, e, g⟩ := hg x hx; ⟨u, e, g.kt (k13.trans kk34.1)⟩) h4 (.inr (s4' _ _ upd_same)) (avN A2 (b03.free A2f n2)) (bt3'.kk kk34.1 (BadDd.kk kk34 n)) (s4 _ _ (k23.tup hpw)) hpl hpi q
theorem ok_nestZ (T : TX K mg) : FnG w K mg base CX0 5 (a_law_nested K) P_law_nested [] (spNestLe K 0) := by
  obtain ⟨fd, ds, F, b, v, kp⟩ := ok_nest0 (w := w) (base := base) T
  refine ⟨fd, ds, F.imp fun vs H Q E h => ?_, b, v, kp⟩
  obtain ⟨n, hn, h⟩ := h
  obtain rfl : n = 0 := by omega
  exact h
theorem ok_nest (T : TX K mg) : ∀ n, n ≤ 50 → FnG w K mg base CX0 (5 + n) (a_law_nested K) P_law_nested [] (spNestLe K n)
  | 0, _ => ok_nestZ T
  | n + 1, h => ok_nestS T (Nat.le_add_right 5 n) (by omega) (ok_nest T n (by omega))
end
end K98
/-! K98Told -/
set_option Elab.async false
set_option linter.all false
set_option maxRecDepth 100000
set_option maxHeartbeats 1000000
/-! _law_told -/
namespace K98
open PySem PySem.Spec PyProof.Rows L2
section
variable {w : World} {K : Fg} {mg : Str → Option Value} {base : Heap}
def spTold (K : Fg) (spA : Sp) : Sp := fun vs H Q _ => ∃ (S A : Addr), vs = [.ref S, .ref A] ∧ (∃ dx fs, H S = some (.ins (cSes K) dx fs) ∧ fs.lookup ("attempt" : Str) = none) ∧ ∀ H1, Same H H1 → ∀ (Q' : VK) (E' : XK), (∀ v H2, (∀ r H3, Same H2 H3 → H3 r = some (.tup [.str "told", v]) → Q (.ref r) H3) → Q' v H2) →
  (∀ d pt p H2, H2 d = some (.xd [(("path" : Str), .ref pt)]) → H2 pt = some (.tup p) → (∀ r H3, Same H2 H3 → H3 r = some (.tup [.str "failed", .ref pt]) → Q (.ref r) H3) → E' (.ref (cFail K)) (some d) H2) → spA [.ref S, .ref A, .bl true] H1 Q' E'
def toldTb (K : Fg) (spA : Sp) (W : WX) : TS := tAsg (tTupA (tCons (tC (.str "told")) (tCons (tMethAt (He.ga K "Session") "attempt" spA [.bl true] (WE W) (tVar 0) (tCons (tVar 1) tNil)) tNil))) (gName 2)
def toldTs (K : Fg) (a : Addr) (cls : Value) (d : Option Addr) : TS := tAsg (tTupA (tCons (tC (.str "failed")) (tCons (tXf a cls d (cFail K) "path" (tVar 3)) tNil))) (gName 2)
theorem ok_told (T : TX K mg) {k : Nat} {spA : Sp} (GA : FnG w K mg base (CXk R.prog w) k (a_Session_attempt K) P_Session_attempt [.bl true] spA) : FnG w K mg base (CXk R.prog w) (k + 1) (a_law_told K) P_law_told [] (spTold K spA) := by
  obtain ⟨fd, F⟩ := T.D_law_told
  obtain ⟨fA, dA, GA, bA, vA, kA⟩ := GA
  refine ⟨fd, [], F.ok sc_law_told (fun vs H Q E h => ?_) (fun cdv A outer s H vs Q E hr h => ?_), F.bindsN fun _ _ _ _ _ _ us hl => match us, hl with | [_, _], _ => rfl, .nil, F.kp⟩
  · obtain ⟨S, A, rfl, _⟩ := h
    rfl
  · obtain ⟨S, a, rfl, ⟨dx, fs, hS, hfs⟩, run⟩ := h
    have hu := hu_of hr
    have tk : TakesK (cxOf (CXk R.prog w) R.prog w K mg base N_law_told "_law_told" (defScope s_law_told) (a_law_told K) cdv A outer s H E) (fun cls d _ H => E cls d H) := takesK_of rfl rfl rfl rfl
    refine ⟨_, (pss_cons (ps_set (i := 2) sc_law_told.nd rfl (.inl rfl) (pe_tupA (pa_cons pe_str pa_nil)))
      (pss_cons (ps_try_firstK (i := 3) (tb := toldTb K spA) (ts := toldTs K) rfl rfl rfl sc_law_told.nd rfl rfl (c := .ref (cFail K)) (And.intro (by rfl) ⟨by decide, .inl T.g_Failed⟩) (fun _ => PassesOwnAt.leaving) tk ?hb ?hs)
      (pss_one (ps_ret (pv 2))))), ?_⟩
    case hb => exact fun W pn xe tkW po => pss_one (ps_set (i := 2) sc_law_told.nd rfl (.inl rfl) (pe_tupA (pa_cons pe_str (pa_cons (pe_methAt (E := WE W) (pv 0) T.c_Session T.m_Session_attempt GA hr bA vA (fun σ => passAtK tkW σ) (pa_cons (pv 1) pa_nil)) pa_nil))))
    case hs => exact fun x oe cls d pn xe hz hf tkS hot => pss_one (ps_set (i := 2) sc_law_told.nd rfl (.inl rfl) (pe_tupA (pa_cons pe_str (pa_cons (PE.nox (pe_xf T.xf T.noPath hz hf (pv 3))) pa_nil))))
    refine ⟨(by decide : 1 ≤ 1001), fun o H1 n1 s1 h1 => ?_⟩
    refine ⟨_, rfl, S, dx, fs, rfl, s1 _ _ hS, hfs, _, rfl, ?_⟩
    refine run H1 s1 _ _ (fun v H2 q => ?_) (fun d pt p H2 hd hp q => ?_)
    · exact ⟨(by decide : 2 ≤ 1001), fun r H3 n3 s3 h3 => ⟨_, rfl, q r H3 s3 h3⟩⟩
    · refine ⟨T.exm, fun x nx => ⟨_, rfl, rfl, rfl, d, _, .ref pt, rfl, hd, rfl, (by decide : 2 ≤ 1001), fun r H3 n3 s3 h3 => ⟨_, rfl, q r H3 s3 h3⟩⟩⟩
end
end K98
/-! K98Turn -/
set_option Elab.async false
set_option linter.all false
set_option maxRecDepth 100000
set_option maxHeartbeats 1000000
/-! one turn of the law's inner loop -/
namespace K98
open PySem PySem.Spec PyProof.Rows L2
section
variable {w : World} {K : Fg} {mg : Str → Option Value} {base : Heap}
/-! ### data told by == -/
def ptD : List V → List PyData
  | [] => []
  | .int i :: r => .int i :: ptD r
  | _ :: r => .none :: ptD r
theorem ptD_dp {H : Hp} : ∀ {p : List V}, Ints p → DpAll K H p (ptD p)
  | [], _ => .nil
  | x :: r, h => by
    obtain ⟨i, rfl⟩ := h x List.mem_cons_self
    exact .cons (.int _) (ptD_dp fun y hy => h y (List.mem_cons_of_mem _ hy))
theorem ptD_lay : ∀ p : List V, PyData.canLayAll0 (ptD p) = true ∧ PyData.depthAll (ptD p) = 0
  | [] => ⟨by simp only [ptD, PyData.canLayAll0], by simp only [ptD, PyData.depthAll]⟩
  | x :: r => by
    have ih := ptD_lay r
    cases x <;> exact ⟨by simp only [ptD, PyData.canLayAll0, PyData.canLay0, ih.1, Bool.and_self], by simp only [ptD, PyData.depthAll, PyData.depth, ih.2]; decide⟩
abbrev fD (p : List V) : PyData := .tuple [.str "failed", .tuple (ptD p)]
theorem fD_ok (p : List V) : SeqAt.shaped (fD p) = true := by
  have h := ptD_lay p
  have s : PyData.strOk "failed" = true := by decide +kernel
  unfold SeqAt.shaped fD
  simp only [PyData.canLay0, PyData.canLayAll0, PyData.depth, PyData.depthAll, h.1, h.2, s]
  decide +kernel
theorem fD_dp {H : Hp} {r pt : Addr} {p : List V} (h1 : H r = some (.tup [.str "failed", .ref pt])) (h2 : H pt = some (.tup p)) (hi : Ints p) : Dp K H (.ref r) (fD p) :=
  .tup (SqT.of h1) (.cons (.str _) (.cons (.tup (SqT.of h2) (ptD_dp hi)) .nil))
/-- the past's one deed, or none; ds: what log tells -/
def LogAt (H : Hp) (items ds : List V) : Prop := (items = [] ∧ ds = []) ∨ ∃ t d b, items = [V.ref t] ∧ ds = [V.ref d] ∧ H t = some (.tup [.ref d, .ref b]) ∧ H d = some (.tup [.str "write", .str "h", .str "o", .str "7"])
theorem LogAt.kt {H H' : Hp} {items ds : List V} (a : LogAt H items ds) (k : KT H H') : LogAt H' items ds := a.imp id fun ⟨t, d, b, h1, h2, h3, h4⟩ => ⟨t, d, b, h1, h2, k.tup h3, k.tup h4⟩
theorem LogAt.len {H : Hp} {items ds : List V} (a : LogAt H items ds) : items.length ≤ 1 := by
  rcases a with ⟨rfl, _⟩ | ⟨t, d, b, rfl, _⟩
  · exact Nat.zero_le _
  · exact Nat.le_refl _
theorem LogAt.eq {H : Hp} {items ds lds : List V} (a : LogAt H items ds) (hl : lds.length = items.length) (h : ∀ (i : Nat) (t : Addr) (d b : V), items[i]? = some (V.ref t) → H t = some (.tup [d, b]) → lds[i]? = some d) : lds = ds := by
  rcases a with ⟨rfl, rfl⟩ | ⟨t, d, b, rfl, rfl, h1, _⟩
  · exact List.eq_nil_of_length_eq_zero hl
  · have l0 := h 0 t (.ref d) (.ref b) rfl h1
    match lds, hl, l0 with
    | [x], _, h => rw [Option.some.inj h]
abbrev wD : PyData := .tuple [.str "write", .str "h", .str "o", .str "7"]
def lD : List V → PyData
  | [] => .list []
  | _ :: _ => .list [wD]
theorem lD_ok : ∀ ds : List V, SeqAt.shaped (lD ds) = true
  | [] => by decide +kernel
  | _ :: _ => by
    show SeqAt.shaped (.list [wD]) = true
    decide +kernel
theorem LogAt.dp {H : Hp} {items ds : List V} {l : Addr} (a : LogAt H items ds) (h : H l = some (.lst ds)) : Dp K H (.ref l) (lD ds) := by
  rcases a with ⟨rfl, rfl⟩ | ⟨t, d, b, rfl, rfl, _, h2⟩
  · exact .lst (SqL.of h) .nil
  · exact .lst (SqL.of h) (.cons (.tup (SqT.of h2) (.cons (.str _) (.cons (.str _) (.cons (.str _) (.cons (.str _) .nil))))) .nil)
theorem neD_no {d : PyData} (h : SeqAt.shaped d = true) : (!PyData.eqv d d) = false := by rw [SeqAt.eqv_refl d (SeqAt.canLay_of_shaped h)] <;> rfl
theorem tell_same {ks : KVs} (nd : (ks.map (·.1)).Nodup) {r : Bool} (t : TellV ks ks GSrc r) : r = true := by
  cases r with
  | true => rfl
  | false =>
    rcases t.2 rfl with h | ⟨p, hp, h⟩
    · exact absurd rfl h
    · have e := valV_self nd (k := p.1) (v := p.2) hp
      rw [e] at h
      rcases h with h | ⟨y, hy, g⟩
      · cases h
      · exact g (Option.some.inj hy)
/-! ### what stands through the turns -/
theorem same_but {H0 H H' : Hp} {f : Addr} (s : Same H0 H) (n : H0 f = none) (b : But f H H') : Same H0 H' := fun x o h => b x o (ne_of_none h n) (s x o h)
theorem same_keep {H0 H H' : Hp} {S L : Addr} (s : Same H0 H) (n : H0 S = none) (m : H0 L = none) (k : Keep S L H H') : Same H0 H' := fun x o h => k x o (ne_of_none h n) (ne_of_none h m) (s x o h)
theorem SesAt.butf {H H' : Hp} {S e cur L f : Addr} {items : List V} {fl : Nat} {a b : Int} (sa : SesAt K H S e cur L items fl) (hf : H f = some (.lst [.int a, .int b])) (n : L ≠ f) (k : But f H H') : SesAt K H' S e cur L items fl := by
  obtain ⟨⟨dx, h1⟩, h2, de, wv, rv, tk, rn, e1, e2, e3⟩ := sa
  exact ⟨⟨dx, k S _ (ne_of h1 hf (by intro z; cases z)) h1⟩, k L _ n h2, de, wv, rv, tk, rn, k e _ (ne_of e1 hf (by intro z; cases z)) e1, k tk _ (ne_of e2 hf (by intro z; cases z)) e2, e3⟩
structure LS (K : Fg) (H0 H : Hp) (f S e cur lg : Addr) (items ds : List V) (ks : KVs) : Prop where
  feed : FeedAt H f
  ses : ∃ L, SesAt K H S e cur L items 0 ∧ L ≠ lg ∧ L ≠ f ∧ H0 L = none
  prj : ProjAt K H cur ks
  ph : PhZ ks
  pst : ItsAt K PhZ H items
  log : LogAt H items ds
  hlg : H lg = some (.lst ds)
  old : Same H0 H
  nf : H0 f = none
  nS : H0 S = none
  fl : f ≠ lg
theorem told_fails (T : TX K mg) {av : List Addr} {S e cur L A : Addr} {items : List V} {ks : KVs} {p : List V} {n : Nat} {H : Hp} (hI : items.length ≤ 1) (hn : n ≤ 3) (mL : L ∈ av) (sa : SesAt K H S e cur L items 0) (pa : ProjAt K H cur ks) (ph : PhZ ks) (it : ItsAt K PhZ H items)
    (b : BadLs K av (BadDd K av n) H A p) {Q : VK} {E : XK} (q : ∀ r pt P H3, H3 r = some (.tup [.str "failed", .ref pt]) → H3 pt = some (.tup p) → Keep S L H H3 → H P = none → SesAt K H3 S e cur P items 0 → Q (.ref r) H3) : spTold K (spAttN K 5) [.ref S, .ref A] H Q E := by
  obtain ⟨dx, hS⟩ := sa.ins
  refine ⟨S, A, rfl, ⟨dx, _, hS, rfl⟩, fun H1 s1 Q' E' hQ hE => ?_⟩
  refine ls_fails T (n := n) (m := 3) (hi := 1) (dd_fails T n 3 hn) (b.kk (KK.of_same s1) (BadDd.kk (KK.of_same s1) n)) mL (sa.same s1) (pa.same s1) ph hI (it.kt (KT.of_same s1)) (by omega) fun d pt P H3 a1 a2 a3 a0 a4 => ?_
  exact hE d pt p H3 a1 a2 fun r H4 s4 h4 => q r pt P H4 h4 (s4 _ _ a2) ((Keep.of_same s1).trans (a3.trans (Keep.of_same s4))) (s1.free a0) (a4.same s4)
def rTupO (K : Fg) : List V → Hp → VK → Prop := fun xs H Q => ∃ p ys, xs = [V.ref p] ∧ ((SqL K H p ys ∧ ∀ l : Addr, H l = none → Q (V.ref l) (upd H l (.tup ys))) ∨ SqT K H p ys ∧ Q (V.ref p) H)
def tTurn1 (K : Fg) : TS := tAsg (tCall (spNestLe K 3) [] E0 (tCons (tVar 2) (tCons (tLstA (tCons (tCall (spSpoilt K) [] E0 (tCons (tVar 2) tNil)) (tCons (tTupA (tCons (tC (V.str "write")) (tCons (tC (V.str "h")) (tCons (tC (V.str "o")) (tCons (tC (V.str "9")) tNil))))) tNil))) (tCons (tCall spDraw [] E0 (tCons (tVar 2) (tCons (tC (V.int 4)) tNil))) tNil)))) (gTup K 2 (gCons (gName 8) (gCons (gName 9) gNil)))
def tTurn2 (K : Fg) : TS := tAsg (tCall (spTold K (spAttN K 5)) [] E0 (tCons (tVar 4) (tCons (tIf (tTest (tOp rEq (tCall spDraw [] E0 (tCons (tVar 2) (tCons (tC (V.int 2)) tNil))) (tC (V.int 0)))) (tVar 8) (tCB (rTupO K) (tCons (tVar 8) tNil))) tNil))) (gName 10)
def tTurn3 (K : Fg) : TS := tIfS (tOr (tTest (tOp (rNeD K) (tVar 10) (tTupA (tCons (tC (V.str "failed")) (tCons (tVar 9) tNil))))) (tOr (tTest (tOp (rNeIn (He.ga K "Project") (spPrjEq K) E0) (tProp (He.ga K "Session") (spSProj K) [] E0 (tVar 4)) (tVar 5))) (tTest (tOp (rNeD K) (tMeth (He.ga K "Session") "log" (spLog K) [] E0 (tVar 4) tNil) (tVar 6))))) (tRet (tC (V.bl false))) tNext
def tTurn (K : Fg) : TS := tSeq (tTurn1 K) (tSeq (tTurn2 K) (tTurn3 K))
theorem law_turn (T : TX K mg) {D : Ends} {H0 H : Hp} {f S e cur lg : Addr} {items dz : List V} {ks : KVs} {y0 y1 y3 y7 y8 y9 y10 y11 y12 : Option V} (a : LS K H0 H f S e cur lg items dz ks)
    (q : ∀ z8 z9 z10 H', LS K H0 H' f S e cur lg items dz ks → D.nx [y0, y1, some (.ref f), y3, some (.ref S), some (.ref cur), some (.ref lg), y7, z8, z9, z10, y11, y12] H') :
    tTurn K D [y0, y1, some (.ref f), y3, some (.ref S), some (.ref cur), some (.ref lg), y7, y8, y9, y10, y11, y12] H := by
  obtain ⟨hfeed, ⟨L, sa, Llg, Lf, nL⟩, pa, ph, it, hlog, hlg, old, nf, nS, flg⟩ := a
  obtain ⟨a0, c0, hf0⟩ := id hfeed
  refine ⟨_, rfl, _, rfl, f, rfl, hfeed, fun t xs H1 b1 f1 h1 bad => ?_⟩
  refine ⟨(by decide : 4 ≤ 1001), fun t2 H2 n2 s2 h2 => ⟨(by decide : 2 ≤ 1001), fun ds H3 n3 s3 h3 => ?_⟩⟩
  have s13 := s2.trans s3
  obtain ⟨a1, c1, hf1⟩ := f1
  have hf3 := s13 _ _ hf1
  have dsf : ds ≠ f := (ne_of_none (s2 _ _ hf1) n3).symm
  refine ⟨_, rfl, f, 4, a1, c1, rfl, by decide, by decide, hf3, fun n a4 c4 hn => ?_⟩
  generalize e4 : upd H3 f (.lst [.int a4, .int c4]) = H4
  obtain ⟨bt4, hf4⟩ := butF e4
  have k34 := KT.of_but bt4 hf3
  have k14 := (KT.of_same s13).trans k34
  have b04 : But f H H4 := (b1.trans (But.of_same s13)).trans bt4
  have sa4 := sa.butf hf0 Lf b04
  refine ⟨n, by omega, f, ds, [f, L], t, t2, xs, rfl, ⟨a4, c4, hf4⟩, bt4 _ _ dsf h3, dsf, .head _, ?_, k14.tup h1, fun H' k' => bad H' (k14.trans k'), fun r A pw ts p H5 b5 f5 hr5 nA hA hpw hpl hpi bt => ?_⟩
  · intro x hx
    rcases List.mem_cons.mp hx with rfl | hx
    · exact ⟨_, hf4⟩
    · rw [List.mem_singleton.mp hx]
      exact ⟨_, sa4.lst⟩
  refine ⟨r, _, rfl, SqT.of hr5, rfl, _, _, rfl, _, _, rfl, rfl, ?_⟩
  obtain ⟨a5, c5, hf5⟩ := f5
  have sa5 := sa4.butf hf4 Lf b5
  have Af : A ≠ f := (ne_of_none hf4 nA).symm
  have AL : A ≠ L := (ne_of_none sa4.lst nA).symm
  refine ⟨_, rfl, _, rfl, f, 2, a5, c5, rfl, by decide, by decide, hf5, fun c a6 c6 hc => ?_⟩
  generalize e6 : upd H5 f (.lst [.int a6, .int c6]) = H6
  obtain ⟨bt6, hf6⟩ := butF e6
  have sa6 := sa5.butf hf5 Lf bt6
  have kk56 : KK [f, L] H5 H6 := KK.of_but bt6 hf5 (.head _)
  have bt6' := bt.kk kk56.1 (BadDd.kk kk56 n)
  have hA6 := bt6 A _ Af hA
  have hpw6 := kk56.1.tup hpw
  have b06 : But f H H6 := (b04.trans b5).trans bt6
  have nf2 : A ∉ [f, L] := fun hm => by
    rcases List.mem_cons.mp hm with hm | hm
    · exact Af hm
    · exact AL (List.mem_singleton.mp hm)
  -- from the call on
  have fin : ∀ (A2 : Addr) (H7 : Hp), Same H6 H7 → LT H7 A2 ts → A2 ∉ [f, L] → spTold K (spAttN K 5) [.ref S, .ref A2] H7 (fun v H' => tTurn3 K D [y0, y1, some (.ref f), y3, some (.ref S), some (.ref cur), some (.ref lg), y7, some (.ref A), some (.ref pw), some v, y11, y12] H') E0 := by
    intro A2 H7 s7 hA2 nA2
    have b07 : But f H H7 := b06.trans (But.of_same s7)
    have k07 : KT H H7 := KT.of_but b07 hf0
    have kk67 : KK [f, L] H6 H7 := KK.of_same s7
    have sa7 := sa6.same s7
    have pa7 := pa.kt k07
    have it7 := it.kt k07
    refine told_fails T (av := [f, L]) (n := n) hlog.len (by omega) (.tail _ (.head _)) sa7 pa7 ph it7 ((bt6'.kk kk67.1 (BadDd.kk kk67 n)).at hA2 nA2) fun r2 pt P H8 hr8 hpt8 kp nP sa8 => ?_
    have hf7 := s7 _ _ hf6
    have Sf : f ≠ S := by
      obtain ⟨dx, h⟩ := sa7.ins
      exact ne_of hf7 h (by intro z; cases z)
    have hf8 := kp f _ Sf Lf.symm hf7
    have k78 : KT H7 H8 := KT.of_keep kp sa7.big sa7.lst
    have pw8 : H8 pw = some (.tup p) := k78.tup (s7 _ _ hpw6)
    have pa8 := pa7.kt k78
    have it8 := it7.kt k78
    have k08 := k07.trans k78
    have old8 : Same H0 H8 := same_keep (same_but old nf b07) nS nL kp
    have lg7 : H7 lg = some (.lst dz) := b07 lg _ flg.symm hlg
    have lg8 : H8 lg = some (.lst dz) := kp lg _ (by
      obtain ⟨dx, h⟩ := sa7.ins
      exact ne_of lg7 h (by intro z; cases z)) Llg.symm lg7
    refine ⟨_, rfl, _, rfl, (by decide : 2 ≤ 1001), fun r3 H9 n9 s9 h9 => ?_⟩
    refine ⟨fD p, fD p, fD_dp (s9 _ _ hr8) (s9 _ _ hpt8) hpi, fD_dp h9 (s9 _ _ pw8) hpi, fD_ok p, fD_ok p, _, rfl, iteF2 (neD_no (fD_ok p)) ?_⟩
    have sa9 := sa8.same s9
    obtain ⟨dx9, h9S⟩ := sa9.ins
    have pa9 := pa8.same s9
    have it9 := it8.kt (KT.of_same s9)
    obtain ⟨dp, gp, hp1, hp2⟩ := pa9.ins
    refine ⟨_, rfl, S, dx9, _, rfl, h9S, S, e, cur, P, _, 0, rfl, sa9, _, rfl, ?_⟩
    refine ⟨cur, cur, dp, dp, _, _, rfl, rfl, hp1, hp1, fun r => TellV ks ks GSrc r, ⟨cur, cur, ks, ks, rfl, pa9, pa9, fun r t => ⟨rfl, r, rfl, t⟩⟩, fun r tl => ⟨_, rfl, ?_⟩⟩
    rw [tell_same pa.nd tl]
    refine iteF2 rfl ?_
    refine ⟨_, rfl, S, dx9, _, rfl, h9S, rfl, S, e, cur, P, _, 0, rfl, sa9, it9.pairs, Nat.le_trans hlog.len (by decide), fun lr lds HA sA nA' hlr hll hlds => ?_⟩
    have s8A := s9.trans sA
    have log9 := (hlog.kt k08).kt (KT.of_same s9)
    have le := log9.eq hll hlds
    rw [le] at hlr
    have logA := log9.kt (KT.of_same sA)
    refine ⟨_, rfl, lD dz, lD dz, logA.dp hlr, logA.dp (s8A _ _ lg8), lD_ok _, lD_ok _, _, rfl, iteF2 (neD_no (lD_ok _)) ?_⟩
    refine q _ _ _ HA ⟨⟨a6, c6, s8A _ _ hf8⟩, ⟨P, sa8.same s8A, (ne_of_none lg7 nP).symm, (ne_of_none hf7 nP).symm, (same_but old nf b07).free nP⟩, pa8.same s8A, ph, it8.kt (KT.of_same s8A), logA, s8A _ _ lg8, old8.trans s8A, nf, nS, flg⟩
  refine ⟨rfl, _, rfl, iteB ?_ ?_⟩
  · exact ⟨_, rfl, fin A H6 (Same.refl _) (.inl hA6) nf2⟩
  · refine ⟨_, rfl, A, ts, rfl, .inl ⟨SqL.of hA6, fun A2 n2 => ?_⟩⟩
    refine fin A2 _ (snew n2) (.inr upd_same) fun hm => ?_
    rcases List.mem_cons.mp hm with hm | hm
    · exact ne_of_none hf6 n2 hm.symm
    · exact ne_of_none sa6.lst n2 (List.mem_singleton.mp hm).symm
end
end K98
/-! K98Nine -/
set_option Elab.async false
set_option linter.all false
set_option maxRecDepth 100000
set_option maxHeartbeats 1000000
/-! the nine right deeds in one attempt -/
namespace K98
open PySem PySem.Spec PyProof.Rows L2
section
variable {w : World} {K : Fg} {mg : Str → Option Value} {base : Heap}
def Anyk (ks : KVs) : Prop := True
def Ph1 : HKs := fun _ ks => valV ks (kS "n") = none ∧ valV ks (kS "w") = none
def Ph2 (K : Fg) : HKs := fun H ks => valV ks (kS "n") = none ∧ ∃ s, valV ks (kS "w") = some (.ref s) ∧ SrcAt K H s [(kO, .str "")]
theorem st1 : StK Ph1 := fun _ _ _ _ h => h
theorem st2 : StK (Ph2 K) := fun _ _ _ k ⟨h1, s, h2, h3⟩ => ⟨h1, s, h2, h3.kt k⟩
theorem valV_drop_same {ks : KVs} {k : Key} : valV (dropK ks k) k = none := by
  unfold valV dropK
  rw [Option.map_eq_none_iff, List.find?_eq_none]
  intro x hx
  have h := (List.mem_filter.mp hx).2
  simpa using h
theorem valV_drop_none {ks : KVs} {k j : Key} (h : valV ks j = none) : valV (dropK ks k) j = none := by
  unfold valV at h ⊢
  rw [Option.map_eq_none_iff, List.find?_eq_none] at h ⊢
  exact fun x hx => h x (List.mem_filter.mp hx).1
theorem drop_short {ks : KVs} {k : Key} (h : (valV ks k).isSome = true) : (dropK ks k).length < ks.length := by
  obtain ⟨v, hv⟩ := Option.isSome_iff_exists.mp h
  have m := valV_mem hv
  unfold dropK
  exact List.length_filter_lt_length_iff_exists.mpr ⟨_, m, by simp⟩
theorem ItsAt.any {Ψ : KVs → Prop} {H : Hp} {items : List V} (a : ItsAt K Ψ H items) : ItsAt K Anyk H items := fun v hv => let ⟨t, d, b, ks, e, h1, h2, _⟩ := a v hv; ⟨t, d, b, ks, e, h1, h2, trivial⟩
theorem does_without (T : TX K mg) {spA : Sp} {S e L t : Addr} {fl hi : Nat} {H : Hp} (h : H t = some (.tup [.str "without", .str "n"])) (j : JA K PhZh PhZ fl hi S e L fl H) (hh : hi ≤ 900) {Q : VK} {E : XK}
    (q : ∀ v H2, JA K Ph1 Anyk (fl + 1) (hi + 1) S e L fl H2 → Keep S L H H2 → Q v H2) : spDo K spA [.ref S, .ref t] H Q E := by
  obtain ⟨cur, items, ks, sa, pa, ph, hlo, hhi, it⟩ := j
  obtain ⟨dx, hS⟩ := sa.ins
  have hz : items.length ≤ 1000 := by omega
  refine ⟨S, t, _, rfl, h, ⟨dx, _, hS, rfl⟩, .inr (.inl ⟨"without", _, rfl, .without (nmT (by decide) (by decide +kernel)), fun H1 s1 => ⟨S, t, rfl, .inr (.inl ⟨"n", SqT.of (s1 _ _ h), S, e, cur, L, items, fl, ks, _, rfl, sa.same s1, pa.same s1, hz, ph.2.1, ?_⟩)⟩⟩)⟩
  refine edited_of (Φ' := Ph1) (Ψ := Anyk) (lo' := fl + 1) (sa.same s1) (pa.same s1) trivial (it.any.kt (KT.of_same s1)) (fun ls d H' _ p hl => ?_) (fun ls d H' p => ?_) (by omega) hhi fun H2 j2 kp => q _ H2 j2 ((Keep.of_same s1).trans kp)
  · rw [p] at hl
    exact absurd hl (Nat.ne_of_lt (drop_short ph.2.1))
  · rw [p]
    exact ⟨valV_drop_same, valV_drop_none ph.2.2⟩
theorem does_no_undo (T : TX K mg) {n : Nat} {S e L t A u : Addr} {fl lo hi : Nat} {H : Hp} (h : H t = some (.tup [.str "attempt", .ref A])) (hA : H A = some (.lst [.ref u])) (nA : A ≠ L) (hu : H u = some (.tup [.str "undo"])) (j : JA K Ph1 Anyk lo hi S e L fl H) (hh : hi ≤ 900) {Q : VK} {E : XK}
    (q : ∀ v H2, JA K Ph1 Anyk lo hi S e L fl H2 → Keep S L H H2 → Q v H2) : spDo K (spAttN K (n + 1)) [.ref S, .ref t] H Q E := by
  obtain ⟨cur, items, ks, sa, pa, ph, hlo, hhi, it⟩ := j
  obtain ⟨dx, hS⟩ := sa.ins
  refine ⟨S, t, _, rfl, h, ⟨dx, _, hS, rfl⟩, .inr (.inr (.inr (.inr ⟨A, .type "list", rfl, tyLst hA, kLT_lst, fun H1 s1 => ?_⟩)))⟩
  have k1 := KT.of_same s1
  refine att_mk (ts := [.ref u]) (stop := 1) (Φ := fun _ => Ph1) (Ψ := fun _ => Anyk) (lo := fun _ => items.length) (hi := fun i => items.length) (.inl (s1 _ _ hA)) nA (Nat.le_trans (by decide : 1 ≤ 1000) (Nat.le_refl _)) (sa.same s1) (by omega) (fun _ => st1)
    (fun H2 b2 s2 => ?_) (fun i x hi hx => ?_) (fun x hx => ?_) (fun _ r H3 j3 kp => ?_)
  · have k2 := k1.trans (KT.of_butS b2 (sa.same s1).big)
    exact ⟨cur, items, ks, s2, pa.kt k2, ph, Nat.le_refl _, Nat.le_refl _, it.kt k2⟩
  · obtain rfl : i = 0 := by omega
    refine ⟨u, (Option.some.inj hx).symm, fun H2 k2 _ j2 Q' E' hQ => ?_⟩
    obtain ⟨cur2, items2, ks2, sa2, pa2, ph2, hlo2, hhi2, it2⟩ := j2
    obtain ⟨dx2, hS2⟩ := sa2.ins
    have hl : items2.length = items.length := by omega
    refine ⟨S, u, _, rfl, (k1.trans k2).tup hu, ⟨dx2, _, hS2, rfl⟩, .inr (.inr (.inr (.inl ⟨rfl, fun H4 s4 => ⟨S, e, cur2, L, items2, items.length, rfl, sa2.same s4, (it2.kt (KT.of_same s4)).pairs, Nat.le_of_eq hl.symm, by omega, fun _ => ?_, fun its t' d b H5 ei ht hle kp sb => ?_⟩⟩)))⟩
    · exact hQ _ H4 ⟨cur2, items2, ks2, sa2.same s4, pa2.same s4, ph2, hlo2, hhi2, it2.kt (KT.of_same s4)⟩ (Keep.of_same s4)
    · subst ei
      rw [List.length_append] at hl
      have y : ([V.ref t'] : List V).length = 1 := rfl
      omega
  · cases hx
  · obtain ⟨cur3, items3, ks3, sa3, pa3, ph3, hlo3, hhi3, it3⟩ := j3
    exact q _ H3 ⟨cur3, items3, ks3, sa3, pa3, ph3, Nat.le_trans hlo hlo3, Nat.le_trans hhi3 hhi, it3⟩ ((Keep.of_same s1).trans kp)
theorem does_write_w (T : TX K mg) {spA : Sp} {S e L t : Addr} {fl lo hi : Nat} {H : Hp} (h : H t = some (.tup [.str "write", .str "w", .str "o", .str ""])) (j : JA K Ph1 Anyk lo hi S e L fl H) (hh : hi ≤ 900) {Q : VK} {E : XK}
    (q : ∀ v H2, JA K (Ph2 K) Anyk (lo + 1) (hi + 1) S e L fl H2 → Keep S L H H2 → Q v H2) : spDo K spA [.ref S, .ref t] H Q E := by
  obtain ⟨cur, items, ks, sa, pa, ph, hlo, hhi, it⟩ := j
  obtain ⟨dx, hS⟩ := sa.ins
  have hz : items.length ≤ 1000 := by omega
  refine ⟨S, t, _, rfl, h, ⟨dx, _, hS, rfl⟩, .inr (.inl ⟨"write", _, rfl, ?_, fun H1 s1 => ⟨S, t, rfl, .inr (.inr (.inl ⟨"w", _, _, SqT.of (s1 _ _ h), S, e, cur, L, items, fl, ks, _, _, _, rfl, sa.same s1, pa.same s1, hz, pk_w, .inl rfl, ?_⟩))⟩⟩)⟩
  · exact EditR.write (r1 := true) (r2 := true) (r3 := true) (nmT (by decide) (by decide +kernel)) (nmT (by decide) (by decide +kernel)) (txT (by decide) (by decide +kernel))
  · refine edited_of (Φ' := Ph2 K) (Ψ := Anyk) (lo' := lo + 1) (sa.same s1) (pa.same s1) trivial (it.kt (KT.of_same s1)) (fun ls d H' _ p hl => ?_) (fun ls d H' p => ?_) (by omega) hhi fun H2 j2 kp => q _ H2 j2 ((Keep.of_same s1).trans kp)
    · obtain ⟨⟨s', e', _⟩, _⟩ := p
      have y : ¬ (valV ks (kS "w")).isSome = true := by rw [ph.2]; exact Bool.false_ne_true
      rw [e', putK_keys y, List.length_append] at hl
      exact absurd hl (Nat.ne_of_gt (Nat.lt_succ_self _))
    · obtain ⟨⟨s', e', src⟩, _⟩ := p
      rw [e']
      refine ⟨?_, s', ?_, src ph.2⟩
      · rw [valV_put, if_neg fun y => absurd (Sum.inr.inj y) (by decide)]
        exact ph.1
      · rw [valV_put, if_pos rfl]
def stPh (K : Fg) (i : Nat) : HKs := if i ≤ 6 then PhZh else if i ≤ 8 then Ph1 else Ph2 K
def stPs (i : Nat) : KVs → Prop := if i ≤ 6 then PhZ else Anyk
def stLo (n i : Nat) : Nat := if i ≤ 6 then n else if i ≤ 8 then n + 1 else n + 2
theorem stPh_st : ∀ i, StK (stPh K i) := fun i => by
  unfold stPh
  split
  · exact st0
  · split
    · exact st1
    · exact st2
theorem told_right (T : TX K mg) {H0 : Hp} {S e cur L A : Addr} {items : List V} {ks : KVs} {xs : List V} {H : Hp} (hI : items.length ≤ 1) (sa : SesAt K H S e cur L items 0) (pa : ProjAt K H cur ks) (ph : PhZ ks) (it : ItsAt K PhZ H items)
    (hA : H A = some (.lst xs)) (nA : A ≠ L) (hl : xs.length = 9) (rd : ∀ j x, xs[j]? = some x → ∃ t, x = .ref t ∧ RDAt K H0 H t j) (nL : ∀ B, H0 B = none → B ≠ L)
    {Q : VK} {E : XK} (q : ∀ r v H3, H3 r = some (.tup [.str "told", v]) → JA K (Ph2 K) Anyk 2 10 S e L 0 H3 → Keep S L H H3 → Q (.ref r) H3) : spTold K (spAttN K 5) [.ref S, .ref A] H Q E := by
  obtain ⟨dx, hS⟩ := sa.ins
  refine ⟨S, A, rfl, ⟨dx, _, hS, rfl⟩, fun H1 s1 Q' E' hQ hE => ?_⟩
  refine att_mk (ts := xs) (stop := 9) (Φ := stPh K) (Ψ := stPs) (lo := stLo items.length) (hi := fun i => 1 + i) (.inl (s1 _ _ hA)) nA (by omega) (sa.same s1) (Nat.le_trans hI (by decide)) stPh_st
    (fun H2 b2 s2 => ?_) (fun i x hi hx => ?_) (fun x hx => ?_) (fun _ r H3 j3 kp => ?_)
  · have k2 := (KT.of_same s1).trans (KT.of_butS b2 (sa.same s1).big)
    exact ⟨cur, _, ks, s2, pa.kt k2, ph, Nat.le_refl _, hI, it.kt k2⟩
  · obtain ⟨t, rfl, rdt⟩ := rd i x hx
    refine ⟨t, rfl, fun H2 k2 kp2 j2 Q2 E2 hQ2 => ?_⟩
    have k02 := (KT.of_same s1).trans k2
    by_cases c : i < 6
    · have e1 : stPh K i = PhZh := if_pos (by omega)
      have e2 : stPs i = PhZ := if_pos (by omega)
      have e3 : stLo items.length i = items.length := if_pos (by omega)
      have e4 : stPh K (i + 1) = PhZh := if_pos (by omega)
      have e5 : stPs (i + 1) = PhZ := if_pos (by omega)
      have e6 : stLo items.length (i + 1) = items.length := if_pos (by omega)
      rw [e4, e5, e6] at hQ2
      rw [e1, e2, e3] at j2
      exact does_good T (n := 3) ((good_of c rdt).kt k02) j2 (by omega) hQ2
    · have e : i = 6 ∨ i = 7 ∨ i = 8 := by omega
      rcases e with rfl | rfl | rfl
      · exact does_without T (fl := items.length) (k02.tup rdt) j2 (by decide) hQ2
      · obtain ⟨B, u, h1, h2, h3, h4⟩ := rdt
        have h2' := s1 _ _ h2
        have BS : B ≠ S := ne_of h2' (s1 _ _ hS) (by intro z; cases z)
        exact does_no_undo T (n := 3) (k02.tup h1) (kp2 B _ BS (nL B h3) h2') (nL B h3) (k02.tup h4) j2 (by decide) fun v H4 j4 k4 => hQ2 v H4 (j4.weak (Nat.le_refl _) (Nat.le_succ _)) k4
      · exact does_write_w T (k02.tup rdt) j2 (by decide) hQ2
  · have hlt := (List.getElem?_eq_some_iff.mp hx).1
    omega
  · rw [hl] at j3
    exact hQ _ H3 fun r2 H4 s4 h4 => q r2 _ H4 h4 (JA.same st2 (j3.weak (Nat.le_add_left 2 _) (Nat.le_refl _)) s4) ((Keep.of_same s1).trans (kp.trans (Keep.of_same s4)))
end
end K98
/-! K98End -/
set_option Elab.async false
set_option linter.all false
set_option maxRecDepth 100000
set_option maxHeartbeats 1000000
/-! what stands behind the inner loop -/
namespace K98
open PySem PySem.Spec PyProof.Rows L2
section
variable {w : World} {K : Fg} {mg : Str → Option Value} {base : Heap}
theorem RDAt.same {H0 H H' : Hp} {t : Addr} (s : Same H H') : ∀ {j : Nat}, RDAt K H0 H t j → RDAt K H0 H' t j
  | 0, ⟨a, o, h, hs⟩ => ⟨a, o, s _ _ h, hs.same s⟩
  | 1, h => s _ _ h
  | 2, h => s _ _ h
  | 3, ⟨k, h, hk⟩ => ⟨k, s _ _ h, s _ _ hk⟩
  | 4, h => s _ _ h
  | 5, ⟨A, u, h1, h2, h3⟩ => ⟨A, u, s _ _ h1, s _ _ h2, s _ _ h3⟩
  | 6, h => s _ _ h
  | 7, ⟨A, u, h1, h2, h3, h4⟩ => ⟨A, u, s _ _ h1, s _ _ h2, h3, s _ _ h4⟩
  | 8, h => s _ _ h
  | j + 9, h => h.elim
def tNine (K : Fg) : TE := tLc (iList K (tCall (spRight K) [] E0 tNil)) (gTup K 2 (gCons (gName 11) (gCons (gName 12) gNil))) tYes (tVar 11) [11, 12]
theorem nine {H : Hp} {Q : VK} {x0 x1 x2 x3 x4 x5 x6 x7 x8 x9 x10 x11 x12 : Option V}
    (q : ∀ A xs H', Same H H' → H A = none → H' A = some (.lst xs) → xs.length = 9 → (∀ j x, xs[j]? = some x → ∃ t, x = V.ref t ∧ RDAt K H H' t j) → Q (.ref A) H') :
    tNine K [x0, x1, x2, x3, x4, x5, x6, x7, x8, x9, x10, x11, x12] H Q := by
  refine ⟨rfl, fun l H1 s1 nl R => ?_⟩
  obtain ⟨ps, hl, h9, R⟩ := R
  refine ⟨l, rfl, ⟨_, SqL.of hl⟩, fun A nA => ?_⟩
  have nAH := s1.free nA
  have ln : (ps.map V.ref).length = 9 := by rw [List.length_map]; exact h9
  refine lc_it (walk_list (xs := ps.map V.ref)) (fun i H' => Same H1 H' ∧ ∃ acc : List V, H' A = some (.lst acc) ∧ acc.length = i ∧ ∀ j x, acc[j]? = some x → ∃ t, x = V.ref t ∧ RDAt K H H1 t j)
    ⟨same_upd (Same.refl H1) nA, [], upd_same, rfl, fun j x hj => by cases hj⟩ (fun i H' _ e => SqL.of (e.1 _ _ hl)) ?_ ?_
  · rintro i x H2z H2 hi ⟨s2, acc, hd, hla, hall⟩ ⟨rfl, hx⟩
    rw [List.getElem?_map] at hx
    cases hp : ps[i]? with
    | none => rw [hp] at hx; cases hx
    | some p =>
      rw [hp] at hx
      obtain rfl := Option.some.inj hx
      obtain ⟨t, z, hz, hpt, rd⟩ := R i p hp
      refine ⟨p, _, rfl, SqT.of (s2 _ _ hpt), rfl, _, _, rfl, _, _, rfl, rfl, rfl, ?_⟩
      unfold tYes
      dsimp only
      rw [if_pos rfl]
      refine ⟨_, rfl, acc, hd, by rw [sizeLine_eq]; omega, same_upd s2 nA, acc ++ [V.ref t], upd_same, by rw [List.length_append, hla]; rfl, fun j x hj => ?_⟩
      by_cases c : j < i
      · rw [List.getElem?_append_left (by omega)] at hj
        exact hall j x hj
      · by_cases e : j = i
        · subst e
          rw [List.getElem?_append_right (by omega), hla, Nat.sub_self] at hj
          exact ⟨t, (Option.some.inj hj).symm, rd⟩
        · have hlt := (List.getElem?_eq_some_iff.mp hj).1
          rw [List.length_append, hla] at hlt
          have y : ([V.ref t] : List V).length = 1 := rfl
          omega
  · rintro H2 ⟨s2, acc, hd, hla, hall⟩
    exact q A acc H2 (s1.trans s2) nAH hd (by rw [hla, ln]) fun j x hj => let ⟨t, e, rd⟩ := hall j x hj; ⟨t, e, rd.same s2⟩
def tLenL (K : Fg) : List V → Hp → VK → Prop := fun xs H Q => ∃ p ys, xs = [V.ref p] ∧ (SqL K H p ys ∨ SqT K H p ys) ∧ Q (V.int ↑ys.length) H
def tEnd1 (K : Fg) : TS := tIfS (tOr (tTest (tOp rNe (tOp (rIxT K) (tCall (spTold K (spAttN K 5)) [] E0 (tCons (tVar 4) (tCons (tNine K) tNil))) (tC (V.int 0))) (tC (V.str "told")))) (tTest (tOp (rI0 fun i j => V.bl (decide (i < j))) (tCB (tLenL K) (tCons (tMeth (He.ga K "Session") "log" (spLog K) [] E0 (tVar 4) tNil) tNil)) (tC (V.int 2))))) (tRet (tC (V.bl false))) tNext
def tEnd2 (K : Fg) : TS := tIfS (tOr (tTest (tOp (rNeIn (He.ga K "Source") (spSrcEq K) E0) (tOp (rGetC (He.ga K "Project") (spPrjGet K) E0) (tProp (He.ga K "Session") (spSProj K) [] E0 (tVar 4)) (tC (V.str "w"))) (tSrcA K (tDisp [(tC (V.str "o"), tC (V.str ""))])))) (tTest (tOp (rInC (He.ga K "Project") (spPrjIn K) E0) (tC (V.str "n")) (tProp (He.ga K "Session") (spSProj K) [] E0 (tVar 4))))) (tRet (tC (V.bl false))) tNext
theorem law_end (T : TX K mg) {D : Ends} {H0 H : Hp} {f S e cur lg : Addr} {items dz : List V} {ks : KVs} {y0 y1 y2 y3 y5 y6 y7 y8 y9 y10 y11 y12 : Option V} (a : LS K H0 H f S e cur lg items dz ks)
    (q : ∀ H', Same H0 H' → D.nx [y0, y1, y2, y3, some (.ref S), y5, y6, y7, y8, y9, y10, y11, y12] H') :
    tSeq (tEnd1 K) (tEnd2 K) D [y0, y1, y2, y3, some (.ref S), y5, y6, y7, y8, y9, y10, y11, y12] H := by
  obtain ⟨hfeed, ⟨L, sa, Llg, Lf, nL⟩, pa, ph, it, hlog, hlg, old, nf, nS, flg⟩ := a
  refine ⟨_, rfl, nine fun A xs H1 s1 nA hA h9 rd => ?_⟩
  dsimp only [tNil]
  refine told_right T hlog.len (sa.same s1) (pa.same s1) ph (it.kt (KT.of_same s1)) hA (ne_of_none sa.lst nA).symm h9 rd (fun B hB => (ne_of_none sa.lst hB).symm) fun r v H2 hr j kp => ?_
  obtain ⟨cur2, items2, ks2, sa2, pa2, ⟨hn, sw, hw, hsw⟩, hlo, hhi, it2⟩ := j
  obtain ⟨dx2, hS2⟩ := sa2.ins
  have old2 : Same H0 H2 := same_keep (old.trans s1) nS nL kp
  refine ⟨r, _, 0, _, rfl, rfl, SqT.of hr, at0, rfl, _, rfl, iteF2 (by decide +kernel) ?_⟩
  refine ⟨_, rfl, S, dx2, _, rfl, hS2, rfl, S, e, cur2, L, items2, 0, rfl, sa2, it2.pairs, by omega, fun lr lds H3 s3 n3 hlr hll hlds => ?_⟩
  refine ⟨lr, lds, rfl, .inl (SqL.of hlr), _, _, rfl, rfl, _, rfl, iteF2 (decide_eq_false (by omega)) ?_⟩
  have sa3 := sa2.same s3
  obtain ⟨dx3, hS3⟩ := sa3.ins
  have pa3 := pa2.same s3
  obtain ⟨dp, gp, hp1, hp2⟩ := pa3.ins
  refine ⟨_, rfl, S, dx3, _, rfl, hS3, S, e, cur2, L, items2, 0, rfl, sa3, cur2, dp, _, rfl, hp1, cur2, ks2, "w", .ref sw, rfl, pa3, hw, ?_⟩
  intro g ng
  refine ⟨upd_same, [(kO, .str "")], rfl, (by decide : 1 ≤ 15), g, [(kO, .str "")], rfl, upd_same, okO1, ?_⟩
  intro so H4 n4 s4' hso
  have s4 : Same H3 H4 := (same_upd (same_upd (Same.refl H3) ng) ng).trans s4'
  have hsw4 := (hsw.same s3).same s4
  obtain ⟨dw, gw, w1, w2⟩ := hsw4.ins
  obtain ⟨dz', gz, z1, z2⟩ := hso.ins
  refine ⟨sw, so, dw, dz', _, _, rfl, rfl, w1, z1, fun r => TellV [(kO, V.str "")] [(kO, V.str "")] GFl r, ⟨sw, so, _, _, rfl, hsw4, hso, fun r t => ⟨rfl, r, rfl, t⟩⟩, fun r tl => ⟨_, rfl, ?_⟩⟩
  rw [tell_self hso.ok.1 (fun p hp => (hso.ok.2.2 p hp).2) tl]
  refine iteF2 rfl ?_
  have sa4 := sa3.same s4
  obtain ⟨dx4, hS4⟩ := sa4.ins
  have pa4 := pa3.same s4
  refine ⟨_, rfl, S, dx4, _, rfl, hS4, S, e, cur2, L, items2, 0, rfl, sa4, cur2, dp, _, rfl, s4 _ _ hp1, cur2, ks2, "n", rfl, pa4, _, rfl, _, rfl, iteF2 (by rw [hn]; rfl) ?_⟩
  exact q H4 ((old2.trans s3).trans s4)
end
end K98
/-! K98Mk -/
set_option Elab.async false
set_option linter.all false
set_option maxRecDepth 100000
set_option maxHeartbeats 1000000
/-! one turn of the law's outer loop -/
namespace K98
open PySem PySem.Spec PyProof.Rows L2
def rSrcB (K : Fg) (H1 : Hp) (Q : VK) (vs : List V) : Prop := ∃ g o, vs = [.ref g] ∧ H1 g = some (.dK o) ∧ ∀ y dx p H', H1 y = none → H1 p = none → Same H1 H' → H' y = some (.ins (cSrc K) dx [("given", .ref p)]) → H' p = some (.dK o) → Q (.ref y) H'
def tSrcB (K : Fg) (t : TE) : TE := fun σ H Q => t σ H fun v H1 => rSrcB K H1 Q [v]
theorem pe_srcB {X : Cx} {f : Addr} {fd : FuncData} {k : Nat} {e : Expr} {t : TE} {p pos : Pos} (M : Mk X.K (cSrc X.K) f) (hm : X.mg "Source" = some (.ref (cSrc X.K))) (F : FnOk X.prog X.w X.K X.mg X.base CX0 k f fd P_Source_init (spSrcInit X.K)) (hr : Room (k + 1) X.A) (hb : Binds X.K fd P_Source_init []) (he : PE X e t)
    (hg : Gl X "Source" := by rfl) (hst : starEach (e :: []) X.env = (false, eval e X.env) :: starEach [] X.env := by rfl) (hpl : (backTo pos (starEach [] X.env)).any (·.1) = false := by rfl) :
    PE X (.Call (.Name "Source" p) [e] [] pos) (tSrcB X.K t) := ⟨fun pins s σ H Q I hq => by
  refine (pe_make M F hr hg hm hb .nil pass0 (pa_wide (pa_cons he pa_nil hst)) (by decide) hst hpl).run pins s σ H Q I ⟨fun vs H1 => rSrcB X.K H1 Q vs, fun vs H1 h => ?_, hq⟩
  obtain ⟨g, o, rfl, hd, q⟩ := h
  intro y dy ny ndy ndx
  have gy : g ≠ y := ne_of_none hd ny
  have gdy : g ≠ dy := ne_of_none hd ndy
  refine ⟨y, dy, g, o, rfl, upd_same, .inl (by rw [upd_ne gy, upd_ne gdy, hd]), gy, fun p3 n3 => ⟨rfl, ?_⟩⟩
  obtain ⟨z1, n3⟩ := upd_none n3
  obtain ⟨z2, n3⟩ := upd_none n3
  have sm2 := same_upd (o := .ins (cSrc X.K) dy [("given", .ref p3)]) (same_upd (o := .dK o) (same_upd (o := .ins (cSrc X.K) dy []) (same_upd (o := .own y) (Same.refl H1) ndy) ny) n3) ny
  exact q y dy p3 _ ny n3 sm2 upd_same (by rw [upd_ne z1, upd_same])⟩
section
variable {w : World} {K : Fg} {mg : Str → Option Value} {base : Heap}
/-! ### what is made -/
theorem same2 {H : Hp} {x dx : Addr} {o u : HO} (nx : H x = none) (ndx : H dx = none) : Same H (upd (upd H dx o) x u) := same_upd (same_upd (Same.refl H) ndx) nx
theorem but_same {H H1 H2 : Hp} {x : Addr} (s : Same H H1) (n : H x = none) (b : But x H1 H2) : Same H H2 := fun c o h => b c o (ne_of_none h n) (s c o h)
theorem mk_prj {H : Hp} {Q : Addr → Hp → Prop} {E : XK} {d : Addr} {o : KVs} (hd : H d = some (.dK o)) (q : ∀ x H', Same H H' → H x = none → (∃ dx g, H' x = some (.ins (cPrj K) dx [("kept", .ref g)]) ∧ H' g = some (.dK o)) → Q x H') :
    ∀ x dx, H x = none → H dx = none → dx ≠ x → spPrjInit K (.ref x :: ([.ref d] ++ [])) (upd (upd H dx (.own x)) x (.ins (cPrj K) dx [])) (fun v H2 => v = .non ∧ Q x H2) E := by
  intro x dx nx ndx ne
  have s1 := same2 (o := .own x) (u := .ins (cPrj K) dx []) nx ndx
  refine ⟨x, dx, d, o, rfl, upd_same, .inl (s1 _ _ hd), ne_of_none hd nx, fun p np => ⟨rfl, ?_⟩⟩
  obtain ⟨px, np⟩ := upd_none np
  obtain ⟨_, np⟩ := upd_none np
  refine q x _ (same_upd (same_upd s1 np) nx) nx ⟨dx, p, upd_same, by rw [upd_ne px, upd_same]⟩
theorem mk_ws {H : Hp} {Q : Addr → Hp → Prop} {E : XK} {d : Addr} (hd : H d = some (.dK [])) (q : ∀ x H', Same H H' → Q x H') :
    ∀ x dx, H x = none → H dx = none → dx ≠ x → spWsInit K (.ref x :: ([.ref d] ++ [])) (upd (upd H dx (.own x)) x (.ins (He.ga K "Workshop") dx [])) (fun v H2 => v = .non ∧ Q x H2) E := by
  intro x dx nx ndx ne
  have s1 := same2 (o := .own x) (u := .ins (He.ga K "Workshop") dx []) nx ndx
  exact ⟨x, dx, d, rfl, upd_same, s1 _ _ hd, fun H' b => ⟨rfl, q x H' (but_same s1 nx b)⟩⟩
theorem mk_ses {H : Hp} {Q : Addr → Hp → Prop} {E : XK} {p : Addr} {wv : V} (q : ∀ S e L H', Same H H' → H S = none → H L = none → SesAt K H' S e p L [] 0 → Q S H') :
    ∀ x dx, H x = none → H dx = none → dx ≠ x → spSesInit K (.ref x :: ([wv, .ref p] ++ [.non])) (upd (upd H dx (.own x)) x (.ins (cSes K) dx [])) (fun v H2 => v = .non ∧ Q x H2) E := by
  intro x dx nx ndx ne
  have s1 := same2 (o := .own x) (u := .ins (cSes K) dx []) nx ndx
  exact ⟨x, dx, p, wv, rfl, upd_same, fun e L H' b nL sa => ⟨rfl, q x e L H' (but_same s1 nx b) nx (s1.free nL) sa⟩⟩
/-! ### the plain project -/
def plainK (a b : Addr) : KVs := [(kS "h", .ref a), (kS "n", .ref b)]
theorem plain_at {H : Hp} {p a b : Addr} {oa ob : KVs} (hp : ∃ dx g, H p = some (.ins (cPrj K) dx [("kept", .ref g)]) ∧ H g = some (.dK (plainK a b))) (ha : SrcAt K H a oa) (hb : SrcAt K H b ob) : ProjAt K H p (plainK a b) := by
  refine ⟨hp, (by decide +kernel : ([kS "h", kS "n"] : List Key).Nodup), fun e he => ?_, (by decide : 2 ≤ 4), fun e he => ?_⟩
  · rcases List.mem_cons.mp he with rfl | he
    · exact pk_h
    · rw [List.mem_singleton.mp he]
      exact pk_n
  · rcases List.mem_cons.mp he with rfl | he
    · exact ⟨a, oa, rfl, ha⟩
    · rw [List.mem_singleton.mp he]
      exact ⟨b, ob, rfl, hb⟩
theorem plain_ph {a b : Addr} : PhZ (plainK a b) := ⟨rfl, rfl, rfl⟩
/-! ### the turn -/
def tB1 (K : Fg) : TS := tAsg (tCall (spFeedOf K) [] E0 (tCons (tVar 0) (tCons (tVar 1) tNil))) (gName 2)
def tB2 (K : Fg) : TS := tAsg (tMake (He.ga K "Project") (spPrjInit K) [] E0 (tCons (tDisp [(tC (V.str "h"), tSrcB K (tDisp [(tC (V.str "o"), tC (V.str "1"))])), (tC (V.str "n"), tSrcB K tDNewK)]) tNil)) (gName 3)
def tB3 (K : Fg) : TS := tAsg (tMake (He.ga K "Session") (spSesInit K) [V.non] E0 (tCons (tMake (He.ga K "Workshop") (spWsInit K) [] E0 (tCons tDNewK tNil)) (tCons (tVar 3) tNil))) (gName 4)
def tB4 (K : Fg) : TS := tDrop (tMeth (He.ga K "Session") "write" (spSWrite K) [] E0 (tVar 4) (tCons (tC (V.str "h")) (tCons (tC (V.str "o")) (tCons (tC (V.str "7")) tNil))))
def tB5 (K : Fg) : TS := tPar 5 6 (tCons (tProp (He.ga K "Session") (spSProj K) [] E0 (tVar 4)) (tCons (tMeth (He.ga K "Session") "log" (spLog K) [] E0 (tVar 4) tNil) tNil))
def tB6 (K : Fg) : TS := tFor (iRng1 (tCons (tC (V.int 12)) tNil)) (gName 7) (tTurn K)
def tBody (K : Fg) : TS := tSeq (tB1 K) (tSeq (tB2 K) (tSeq (tB3 K) (tSeq (tB4 K) (tSeq (tB5 K) (tSeq (tB6 K) (tSeq (tEnd1 K) (tEnd2 K)))))))
theorem law_body (T : TX K mg) {D : Ends} {H : Hp} {s : Addr} {xs : List V} {i : Nat} {y2 y3 y4 y5 y6 y7 y8 y9 y10 y11 y12 : Option V} (hs : SqL K H s xs) (hi : ∀ v ∈ xs, ∃ i : Int, v = .int i)
    (q : ∀ z2 z3 z4 z5 z6 z7 z8 z9 z10 H', Same H H' → D.nx [some (.ref s), some (.int i), z2, z3, z4, z5, z6, z7, z8, z9, z10, y11, y12] H') :
    tBody K D [some (.ref s), some (.int i), y2, y3, y4, y5, y6, y7, y8, y9, y10, y11, y12] H := by
  refine ⟨_, rfl, _, rfl, s, i, xs, rfl, hs, hi, fun f a0 b0 nf => ?_⟩
  generalize e1 : upd H f (.lst [.int a0, .int b0]) = H1
  have s1 : Same H H1 := by rw [← e1]; exact snew nf
  have hf1 : H1 f = some (.lst [.int a0, .int b0]) := by rw [← e1]; exact upd_same
  intro d1 nd1 g1 ng1
  refine ⟨upd_same, [(kO, .str "1")], rfl, (by decide : 1 ≤ 15), g1, [(kO, .str "1")], rfl, upd_same, ?_⟩
  intro sh dh ph H2 n2 np2 s2 hsh hph g2 ng2
  refine ⟨g2, [], rfl, upd_same, ?_⟩
  intro sn dn pn H3 n3 np3 s3 hsn hpn
  have d1g1 : d1 ≠ g1 := (upd_none ng1).1.symm
  have hd2 : H2 d1 = some (.dK []) := s2 _ _ (by rw [upd_ne d1g1, upd_ne d1g1, upd_same])
  have s12 : Same H1 H2 := (same_upd (same_upd (snew nd1) (upd_none ng1).2) (upd_none ng1).2).trans s2
  have s23 : Same H2 H3 := (snew ng2).trans s3
  have hd1 : H3 d1 = some (.dK []) := s23 _ _ hd2
  have d1sh : sh ≠ d1 := (ne_of_none (show (upd (upd (upd H1 d1 (.dK [])) g1 (.dK [])) g1 (.dK [(kO, .str "1")])) d1 = some (.dK []) by rw [upd_ne d1g1, upd_ne d1g1, upd_same]) n2).symm
  have d1ph : ph ≠ d1 := (ne_of_none (show (upd (upd (upd H1 d1 (.dK [])) g1 (.dK [])) g1 (.dK [(kO, .str "1")])) d1 = some (.dK []) by rw [upd_ne d1g1, upd_ne d1g1, upd_same]) np2).symm
  have d1sn : sn ≠ d1 := (ne_of_none (snew ng2 _ _ hd2) n3).symm
  have d1pn : pn ≠ d1 := (ne_of_none (snew ng2 _ _ hd2) np3).symm
  refine ⟨hd1, [(kS "h", .ref sh), (kS "n", .ref sn)], rfl, (by decide : 2 ≤ 15), ?_⟩
  have em : mergeK [] [(kS "h", V.ref sh), (kS "n", .ref sn)] = plainK sh sn := rfl
  rw [em]
  have ah : SrcAt K (upd H3 d1 (.dK (plainK sh sn))) sh [(kO, .str "1")] := ⟨⟨dh, ph, by rw [upd_ne d1sh]; exact s23 _ _ hsh, by rw [upd_ne d1ph]; exact s23 _ _ hph⟩, okO1⟩
  have an : SrcAt K (upd H3 d1 (.dK (plainK sh sn))) sn [] := ⟨⟨dn, pn, by rw [upd_ne d1sn]; exact hsn, by rw [upd_ne d1pn]; exact hpn⟩, List.nodup_nil, Nat.zero_le _, fun p hp => nomatch hp⟩
  have s14 : Same H (upd H3 d1 (.dK (plainK sh sn))) := same_upd ((s1.trans s12).trans s23) (s1.free nd1)
  have f4 : (upd H3 d1 (.dK (plainK sh sn))) f = some (.lst [.int a0, .int b0]) := by
    rw [upd_ne (ne_of_none hf1 nd1)]
    exact s23 _ _ (s12 _ _ hf1)
  have hd4 : (upd H3 d1 (.dK (plainK sh sn))) d1 = some (.dK (plainK sh sn)) := upd_same
  generalize (upd H3 d1 (.dK (plainK sh sn))) = H4 at ah an s14 f4 hd4
  dsimp only [tNil]
  refine mk_prj hd4 fun pj H5 s5 n5 hpj => ?_
  have pa := plain_at hpj (ah.same s5) (an.same s5)
  intro d2 nd2
  refine mk_ws upd_same fun ws H6 s6 => ?_
  have s56 := (snew nd2).trans s6
  refine ⟨_, rfl, mk_ses fun S e L H7 s7 nS nL sa => ?_⟩
  have s17 : Same H H7 := ((s14.trans s5).trans s56).trans s7
  have s16 := (s14.trans s5).trans s56
  have f6 := s56 _ _ (s5 _ _ f4)
  have f7 := s7 _ _ f6
  have pa7 := (pa.same s56).same s7
  have Lf : L ≠ f := (ne_of_none f6 nL).symm
  have Sf : S ≠ f := (ne_of_none f6 nS).symm
  have nSH := s16.free nS
  have nLH := s16.free nL
  -- behind the write
  have rest : ∀ (cur : Addr) (items dz : List V) (ks : KVs) (H8 : Hp), LogAt H8 items dz → SesAt K H8 S e cur L items 0 → ProjAt K H8 cur ks → PhZ ks → ItsAt K PhZ H8 items → Same H H8 → H8 f = some (.lst [.int a0, .int b0]) →
      tSeq (tB5 K) (tSeq (tB6 K) (tSeq (tEnd1 K) (tEnd2 K))) D [some (.ref s), some (.int i), some (.ref f), some (.ref pj), some (.ref S), y5, y6, y7, y8, y9, y10, y11, y12] H8 := by
    intro cur items dz ks H8 lg8 sa8 pa8 ph8 it8 s8 f8
    obtain ⟨dx8, hS8⟩ := sa8.ins
    refine ⟨_, rfl, S, dx8, _, rfl, hS8, S, e, cur, L, items, 0, rfl, sa8, ?_⟩
    refine ⟨_, rfl, S, dx8, _, rfl, hS8, rfl, S, e, cur, L, items, 0, rfl, sa8, it8.pairs, Nat.le_trans lg8.len (by decide), fun lr lds H9 s9 n9 hlr hll hlds => ⟨_, _, rfl, ?_⟩⟩
    rw [lg8.eq hll hlds] at hlr
    have ls : LS K H H9 f S e cur lr items dz ks := ⟨⟨a0, b0, s9 _ _ f8⟩, ⟨L, sa8.same s9, ne_of_none sa8.lst n9, Lf, nLH⟩, pa8.same s9, ph8, it8.kt (KT.of_same s9), lg8.kt (KT.of_same s9), hlr, s8.trans s9, nf, nSH, ne_of_none f8 n9⟩
    refine ⟨12, rfl, by decide, by decide, for_range (fun j σ H' => ∃ z7 z8 z9 z10, σ = [some (.ref s), some (.int i), some (.ref f), some (.ref pj), some (.ref S), some (.ref cur), some (.ref lr), z7, z8, z9, z10, y11, y12] ∧ LS K H H' f S e cur lr items dz ks) ⟨_, _, _, _, rfl, ls⟩ (fun j σ H' hj p => ?_) (fun σ H' p => ?_)⟩
    · obtain ⟨z7, z8, z9, z10, rfl, ls⟩ := p
      exact law_turn T ls fun w8 w9 w10 H2 ls2 => ⟨_, _, _, _, rfl, ls2⟩
    · obtain ⟨z7, z8, z9, z10, rfl, ls⟩ := p
      exact law_end T ls fun H2 s2 => q _ _ _ _ _ _ _ _ _ H2 s2
  obtain ⟨dx7, hS7⟩ := sa.ins
  refine ⟨_, rfl, S, dx7, _, rfl, hS7, rfl, S, e, pj, L, [], 0, plainK sh sn, "h", "o", "7", rfl, sa, pa7, (by decide : 0 ≤ 1000), pk_h, .inl rfl, fun H8 qq d ls s8 pq p hl => ?_, fun qq t d ls H8 kp nt ht pq p sa8 => ?_⟩
  · exact rest pj [] [] _ H8 (.inl ⟨rfl, rfl⟩) (sa.same s8) (pa7.same s8) plain_ph (fun v hv => nomatch hv) (s17.trans s8) (s8 _ _ f7)
  · obtain ⟨⟨s', e', _⟩, td, rfl, htd⟩ := p
    have ph8 : PhZ ls := by rw [e']; exact plain_ph.put _ (by decide)
    have k8 := KT.of_keep kp sa.big sa.lst
    refine rest qq [.ref t] [.ref td] ls H8 (.inr ⟨t, td, pj, rfl, rfl, ht, htd⟩) sa8 pq ph8 (fun v hv => ?_) (same_keep s17 nSH nLH kp) (kp f _ Sf.symm Lf.symm f7)
    rw [List.mem_singleton.mp hv]
    exact ⟨t, .ref td, pj, _, rfl, ht, pa7.kt k8, plain_ph⟩
end
end K98
/-! K98Law -/
set_option Elab.async false
set_option linter.all false
set_option maxRecDepth 100000
set_option maxHeartbeats 1000000
/-! law -/
namespace K98
open PySem PySem.Spec PyProof.Rows L2
theorem passK0 {X : Cx} : Passes (CXk X.prog X.w) X E0 := fun pins σ H s e s' I c => by
  obtain ⟨_, _, _, _, _, _, _, _, _, _, _, _, _, _, _, _, h⟩ := c
  exact h.elim
section
variable {w : World} {K : Fg} {mg : Str → Option Value} {base : Heap}
def spLaw (K : Fg) : Sp := fun vs H Q _ => ∃ (s : Addr) (xs : List V), vs = [.ref s] ∧ SqL K H s xs ∧ (∀ v ∈ xs, ∃ i : Int, v = .int i) ∧ xs.length ≤ 100000 ∧ ∀ H', Q (.bl true) H'
theorem ok_law (T : TX K mg) {fd : FuncData} (F : FunD K "law" "law" (defArgs s_law) (defBody s_law) (defScope s_law) [] [] (a_law K) fd) : FnOk R.prog w K mg base CX0 26 (a_law K) fd P_law (spLaw K) := by
  obtain ⟨fD, dD, GD, bD, vD, kD'⟩ := ok_draw (w := w) (base := base) T
  cases vD
  obtain ⟨fR, dR, GR, bR, vR, kR'⟩ := ok_right (w := w) (base := base) T
  cases vR
  obtain ⟨fF, dF, GF, bF, vF, kF'⟩ := ok_feed_of (w := w) (base := base) T
  cases vF
  obtain ⟨fS, dS, GS, bS, vS, kS'⟩ := ok_src_init (w := w) (base := base) T
  cases vS
  obtain ⟨fPi, dPi, GPi, bPi, vPi, kPi'⟩ := ok_prj_init (w := w) (base := base) T
  cases vPi
  obtain ⟨fSi, dSi, GSi, bSi, vSi, kSi'⟩ := ok_ses_init (w := w) (base := base) T
  obtain ⟨fWi, dWi, GWi, bWi, vWi, kWi'⟩ := ok_ws_init (w := w) (base := base) T
  cases vWi
  obtain ⟨fW, dW, GW, bW, vW, kW'⟩ := ok_swrite (w := w) (base := base) T
  cases vW
  obtain ⟨fJ, dJ, GJ, bJ, vJ, kJ'⟩ := ok_sproj (w := w) (base := base) T
  cases vJ
  obtain ⟨fL, dL, GL, bL, vL, kL'⟩ := ok_log (w := w) (base := base) T
  cases vL
  obtain ⟨fO, dO, GO, bO, vO, kO'⟩ := ok_spoilt (w := w) (base := base) T
  cases vO
  obtain ⟨fE, dE, GE, bE, vE, kE'⟩ := ok_prj_eq (w := w) (base := base) T
  cases vE
  obtain ⟨fQ, dQ, GQ, bQ, vQ, kQ'⟩ := ok_src_eq (w := w) (base := base) T
  cases vQ
  obtain ⟨fG, dG, GG, bG, vG, kG'⟩ := ok_prj_get (w := w) (base := base) T
  cases vG
  obtain ⟨fI, dI, GI, bI, vI, kI'⟩ := ok_prj_in (w := w) (base := base) T
  cases vI
  obtain ⟨fN, dN, GN, bN, vN, kN⟩ := ok_nest (w := w) (base := base) T 3 (by decide)
  cases vN
  obtain ⟨fT, dT, GT, bT, vT, kT⟩ := ok_told (w := w) (base := base) T (ok_attN T 5)
  cases vT
  refine F.ok sc_law (fun vs H Q E h => ?_) (fun cdv A outer s H vs Q E hr h => ?_)
  · obtain ⟨s, xs, rfl, _⟩ := h
    rfl
  · obtain ⟨s, xs, rfl, hs, hi, hz, q⟩ := h
    have hu := hu_of hr
    have hrT : Room (8 + 3 * 5 + 1) _ := hr.mono (by decide)
    have hrN : Room (5 + 3) _ := hr.mono (by decide)
    have hrS : Room 8 _ := hr.mono (by decide)
    have hrW : Room 7 _ := hr.mono (by decide)
    have hr5 : Room 5 _ := hr.mono (by decide)
    have hr4 : Room 4 _ := hr.mono (by decide)
    have hr3 : Room 3 _ := hr.mono (by decide)
    have hr2 : Room 2 _ := hr.mono (by decide)
    have hr1 : Room 1 _ := hr.mono (by decide)
    have hu64 := hr1.units
    refine ⟨_, PSs.nox (pss_cons (ps_for PassesOwn.never rfl (pi_range1 (by rfl) T.n_range (pa_cons (pe_callB (call_max2 rfl) (by rfl) T.n_max (by decide +kernel) (pa_cons pe_int (pa_cons (pe_callB (call_min2 rfl) (by rfl) T.n_min (by decide +kernel) (pa_cons pe_int (pa_cons (pe_callB call_len_seq (by rfl) T.n_len boot_len (pa_cons (pv 0) pa_nil)) pa_nil))) pa_nil))) pa_nil)) (pg_name (i := 1) sc_law.nd rfl (Or.inl rfl)) (pss_cons (ps_set (i := 2) sc_law.nd rfl (.inl rfl) (pe_call GF hr1 (by rfl) T.g_law_feed_of kF' bF .nil pass0 (pa_cons (pv 0) (pa_cons (pv 1) pa_nil)))) (pss_cons (ps_set (i := 3) sc_law.nd rfl (.inl rfl) (pe_make T.mk_Project GPi hr2 (by rfl) T.g_Project bPi .nil pass0 (pa_cons (pe_disp (pps_cons pe_str (pe_srcB T.mk_Source T.g_Source GS hr2 bS (pe_disp (pps_cons pe_str pe_str pps_nil) rfl rfl (by intro z; cases z) (by decide))) (pps_cons pe_str (pe_srcB T.mk_Source T.g_Source GS hr2 bS pe_dnewK) pps_nil)) rfl rfl (by intro z; cases z) (by decide)) pa_nil))) (pss_cons (ps_set (i := 4) sc_law.nd rfl (.inl rfl) (pe_make T.mk_Session GSi hrS (by rfl) T.g_Session bSi vSi pass0 (pa_cons (pe_make T.mk_Workshop GWi hr2 (by rfl) T.g_Workshop bWi .nil pass0 (pa_cons pe_dnewK pa_nil)) (pa_cons (pv 3) pa_nil)))) (pss_cons (ps_expr (pe_meth (pv 4) T.c_Session T.m_Session_write GW hrW bW .nil pass0 (pa_cons pe_str (pa_cons pe_str (pa_cons pe_str pa_nil))))) (pss_cons (ps_par (i := 5) (j := 6) rfl sc_law.nd rfl rfl (by decide) rfl rfl (pa_cons (pe_prop (pv 4) T.c_Session T.p_project GJ hr2 bJ .nil pass0 rfl) (pa_cons (pe_meth0 (pv 4) T.c_Session T.m_Session_log GL hr1 bL .nil pass0) pa_nil)) rfl) (pss_cons (ps_for PassesOwn.never rfl (pi_range1 (by rfl) T.n_range (pa_cons pe_int pa_nil)) (pg_name (i := 7) sc_law.nd rfl (Or.inl rfl)) (pss_cons (ps_asg (pe_call GN hrN (by rfl) T.g_law_nested kN bN .nil pass0 (pa_cons (pv 2) (pa_cons (pe_lstA (pa_cons (pe_call GO hr4 (by rfl) T.g_law_spoilt kO' bO .nil pass0 (pa_cons (pv 2) pa_nil)) (pa_cons (pe_tupA (pa_cons pe_str (pa_cons pe_str (pa_cons pe_str (pa_cons pe_str pa_nil))))) pa_nil))) (pa_cons (pe_call GD hr1 (by rfl) T.g_law_draw kD' bD .nil pass0 (pa_cons (pv 2) (pa_cons pe_int pa_nil))) pa_nil)))) (pg_tup rfl (pgs_cons (pg_name (i := 8) sc_law.nd rfl (Or.inl rfl)) (pgs_cons (pg_name (i := 9) sc_law.nd rfl (Or.inl rfl)) pgs_nil)))) (pss_cons (ps_set (i := 10) sc_law.nd rfl (.inl rfl) (pe_call GT hrT (by rfl) T.g_law_told kT bT .nil passK0 (pa_cons (pv 4) (pa_cons (pe_ifExp (pt_cmpR op_eq (pe_call GD hr1 (by rfl) T.g_law_draw kD' bD .nil pass0 (pa_cons (pv 2) (pa_cons pe_int pa_nil))) pe_int (nomark _)) (pv 8) (pe_callTy call_tuple_of (by rfl) T.n_tuple (by decide +kernel) (pa_cons (pv 8) pa_nil))) pa_nil)))) (pss_one (ps_if (PW.pt (pw_or (pt_cmpR (op_neD hu64) (pv 10) (pe_tupA (pa_cons pe_str (pa_cons (pv 9) pa_nil))) (nomark _)) (pw_or (pt_cmpR (op_neIn GE (T.m_Project_eq).1 (T.m_Project_eq).2 T.ne_prj T.mro_prj bE pass0 hr5) (pe_prop (pv 4) T.c_Session T.p_project GJ hr2 bJ .nil pass0 rfl) (pv 5) (nomark _)) (pw_or1 (pt_cmpR (op_neD hu64) (pe_meth0 (pv 4) T.c_Session T.m_Session_log GL hr1 bL .nil pass0) (pv 6) (nomark _)))))) (pss_one (ps_ret pe_bl)) pss_nil))))) (pss_cons (ps_if (PW.pt (pw_or (pt_cmpR op_ne (pe_ix ix_tup (pe_call GT hrT (by rfl) T.g_law_told kT bT .nil passK0 (pa_cons (pv 4) (pa_cons (pe_lc (own := [("_law_deed", 11), ("_law_sorts", 12)]) (g := gTup K 2 (gCons (gName 11) (gCons (gName 12) gNil))) (tt := tYes) rfl sc_law.nd (pi_list (pe_call0 GR hr3 (by rfl) T.g_law_right_deeds kR' bR .nil pass0)) (blkOk_by (N := N_law) (sc := defScope s_law) (by decide +kernel)) (fun _ _ _ _ _ => pg_tup rfl (pgs_cons (pg_name (i := 11) sc_law.nd rfl (Or.inl rfl)) (pgs_cons (pg_name (i := 12) sc_law.nd rfl (Or.inl rfl)) pgs_nil))) (fun _ _ _ _ _ => pts_nil) (fun _ _ _ _ _ => pv 11)) pa_nil))) pe_int (fun _ _ => rfl)) pe_str (nomark _)) (pw_or1 (pt_cmpR op_lt (pe_callB call_len_seq (by rfl) T.n_len boot_len (pa_cons (pe_meth0 (pv 4) T.c_Session T.m_Session_log GL hr1 bL .nil pass0) pa_nil)) pe_int (nomark _))))) (pss_one (ps_ret pe_bl)) pss_nil) (pss_one (ps_if (PW.pt (pw_or (pt_cmpR (op_neIn GQ (T.m_Source_eq).1 (T.m_Source_eq).2 T.ne_src T.mro_src bQ pass0 hr3) (pe_getC GG (T.m_Project_getitem).1 (T.m_Project_getitem).2 T.fn_get bG pass0 hr2 (pe_prop (pv 4) T.c_Session T.p_project GJ hr2 bJ .nil pass0 rfl) pe_str) (pe_srcA T.mk_Source T.g_Source GS hr2 bS (pe_disp (pps_cons pe_str pe_str pps_nil) rfl rfl (by intro z; cases z) (by decide))) (nomark _)) (pw_or1 (pt_cmpR (op_inC GI (T.m_Project_contains).1 (T.m_Project_contains).2 bI pass0 hr1) pe_str (pe_prop (pv 4) T.c_Session T.p_project GJ hr2 bJ .nil pass0 rfl) rfl)))) (pss_one (ps_ret pe_bl)) pss_nil)))))))))) (pss_one (ps_ret pe_bl))), ?_⟩
    refine ⟨_, rfl, s, xs, rfl, .inl hs, _, _, rfl, _, _, rfl, ?_⟩
    have key : ∀ n : Int, (if (if (xs.length : Int) < 6 then (xs.length : Int) else 6) > 3 then (if (xs.length : Int) < 6 then (xs.length : Int) else 6) else 3) = n → -(2 ^ 62) ≤ n ∧ n < 2 ^ 62 := by
      intro n e
      rw [← e]
      constructor <;> (repeat' split) <;> omega
    generalize (if (if (xs.length : Int) < 6 then (xs.length : Int) else 6) > 3 then (if (xs.length : Int) < 6 then (xs.length : Int) else 6) else 3) = n at key
    refine ⟨n, rfl, (key n rfl).1, (key n rfl).2, for_range (fun i σ H' => ∃ z1 z2 z3 z4 z5 z6 z7 z8 z9 z10 z11 z12, σ = [some (.ref s), z1, z2, z3, z4, z5, z6, z7, z8, z9, z10, z11, z12] ∧ Same H H') ⟨_, _, _, _, _, _, _, _, _, _, _, _, rfl, Same.refl _⟩ (fun i σ H' hi' p => ?_) (fun σ H' p => ?_)⟩
    · obtain ⟨z1, z2, z3, z4, z5, z6, z7, z8, z9, z10, z11, z12, rfl, s1⟩ := p
      have e0 : ((0 : Int) + (i : Int)) = (i : Int) := Int.zero_add _
      rw [e0]
      exact law_body T (hs.ext s1) hi fun w2 w3 w4 w5 w6 w7 w8 w9 w10 H2 s2 => ⟨_, _, _, _, _, _, _, _, _, _, _, _, rfl, s1.trans s2⟩
    · exact q H'
end
end K98
/-! K98Fin -/
set_option Elab.async false
set_option linter.all false
set_option maxRecDepth 100000
set_option maxHeartbeats 0
/-! the end -/
namespace K98
open PySem PySem.Spec PyProof.Rows L2
theorem facts {w : World} {K : Fg} {h : Heap} {mg : Str → Option Value} {f : Addr} (X : K.In h) (G : h.Ns mainGlobals mg) (hfa : mg ("law" : Str) = some (.ref f)) (c : SaysK fa ex fn K) :
    ∃ fd : FuncData, (∀ (s : Shared) (v : Value), BindsTo s fd ⟨[v], []⟩ [("_law_script", v)]) ∧ ∀ base : Heap, K.In base → base.Ns mainGlobals mg → FnOk R.prog w K mg base CX0 26 f fd ["_law_script"] (spLaw K) := by
  have T : TX K mg := ⟨h, X, G, c⟩
  obtain ⟨fd, F⟩ := T.D_law
  have e := hfa.symm.trans T.g_law
  cases e
  have b := FunD.bindsA (ps := ["_law_script"]) F fun _ _ _ _ _ _ us hl => match us, hl with | [_], _ => rfl
  exact ⟨fd, fun s v => b s [v] rfl, fun base _ _ => ok_law T F⟩
end K98
open PySem PySem.W PySem.Calls PyProof.Rows
theorem PySem.Challenge.cw_farenough_k98_whole_deeds_with_one_thing_holds : PySem.Challenge.rw_farenough_k98_whole_deeds_with_one_thing.Holds := by
  w_on; o_law
  refine HandSHeadRun.head_any (r := OpenLaw.row PySem.Challenge.rw_farenough_k98_whole_deeds_with_one_thing) (q := view (OpenLaw.row PySem.Challenge.rw_farenough_k98_whole_deeds_with_one_thing).prog [78]) (H := K98.hk) (ob := K98.ob) (M := 10100) (loose := K98.looseA) (d := HandSHeadRun.topDef (OpenLaw.row PySem.Challenge.rw_farenough_k98_whole_deeds_with_one_thing).prog 78) (kwd := []) K98.ob_eq
    (by kernel_rfl) (fun s => by kernel_rfl) K98.run (by kernel_rfl) (by kernel_rfl) (by kernel_rfl) (by rfl) (by first | assumption | decide +kernel) (by decide +kernel) ⟨rfl, rfl, rfl, rfl, rfl, by decide +kernel⟩ ?hw ?hc
  case hw => w_witness2
  case hc =>
    refine L2.walk_ofE (l := PySem.Challenge.rw_farenough_k98_whole_deeds_with_one_thing) (n := 63) (k := 26) (x := "_law_script") (CX := L2.CX0) rfl (by decide) (by kernel_rfl) ⟨rfl, by decide, by decide⟩ ?F (fun _ _ _ _ z => z)
    intro w mg fa h Y G hmg0
    obtain ⟨K, KX, c⟩ := Y
    have hmg : mg ("law" : PySem.Str) = some (.ref fa) := by
      have e : (HandSHeadRun.topDef (OpenLaw.row PySem.Challenge.rw_farenough_k98_whole_deeds_with_one_thing).prog 78).name = ("law" : PySem.Str) := by kernel_rfl
      rw [← e]
      exact hmg0
    obtain ⟨fd, hb, hF⟩ := K98.facts (w := w) KX G hmg c
    refine ⟨K, fd, K98.spLaw K, KX, hb, fun H a ns hl _ hS => ⟨a, ns.map L2.V.int, rfl, hS, fun v hv => ?_, ?_, fun _ => rfl⟩, hF⟩
    · obtain ⟨i, _, e⟩ := List.mem_map.mp hv
      exact ⟨i, e.symm⟩
    · rw [List.length_map]
      omega
