import PyProof.Rows.All
import Wide.All
import OpenK.AllK
import Wide.FinOn
import HandS.ForMost
import HandS.Defaults
import HandS.Head0
import HandS.Head1
import HandS.Head2
import HandS.HeadEnd
import HandS.HeadHook1
import HandS.HeadHook2
import HandS.Property
import PyProof.Rows.RuleB_pow
import PyProof.Rows.SortShellAny
import HandS.TryOnly
import HandS.Wide
import HandS.Walk
import HandS.IsInst
import HandS.DictComp
import HandS.Style
import HandS.Flow
import HandS.TupAny
import HandS.ListItems
import HandS.Conv
import HandS.OwnEq
import KE.GoesMore
import KE.GoesEnum
import HandS.Iter
import HandS.SortKw
import HandS.More
import HandS.Finally
import KE.KDictSum
import HandS.SortRule
import HandS.SortOrd
import KE.KSortTup
import PyProof.ReprRoads
import HandS.Dict
import HandS.WordsExc
import HandS.ExcIs
import HandS.ExcField
import KE.KExcSuper
import KE.KSuper
import HandS.ExcInit
import HandS.TryMany
import KE.KEqNest
import KE.KeyNested
import KE.KDictWalk
import KE.KDictCopyH
import PySem.Challenge.RW_ownslips_k69_books_judged_and_breaches
set_option Elab.async false
set_option linter.all false
set_option maxRecDepth 100000
set_option maxHeartbeats 4000000
/-! Own hook: facts are any Bool of the written part, defs stand at any address that the written part tells. -/
namespace Oh
open PySem PySem.Spec PyProof.Rows L2
abbrev Frag := PySem.W.Frag
/-- a def: where it stands and its text -/
structure Dd where
  spot : Frag → Addr
  name : Str
  qual : Str
  st : Stmt
def Dd.fnd (d : Dd) (K : Frag) : He.FnW := (K.lookup (d.spot K)).bind fun o => match o.data with
  | .func fd => some (fd.name, fd.qualname, fd.params, fd.body, fd.scope, fd.globals, fd.closure, fd.builtins)
  | _ => none
def Dd.due (d : Dd) : He.FnW := some (d.name, d.qual, defArgs d.st, .stmts (defBody d.st), defScope d.st, mainGlobals, [], builtinsNs)
def isNon : Value → Bool
  | .none => true
  | _ => false
def Dd.good (d : Dd) (K : Frag) : Bool := match K.lookup (d.spot K) with
  | some o => (match o.data with
    | .func fd => PySem.W.keepIn K (.ref (d.spot K)) && (PySem.W.codeIn K fd.code d.qual && isNon fd.defaults)
    | _ => false)
  | none => false
theorem Dd.fun_ {d : Dd} {K : Frag} (e : d.fnd K = d.due) (g : d.good K = true) : ∃ fd, Fun K d.name d.qual d.st (d.spot K) fd := by
  unfold Dd.fnd at e
  unfold Dd.good at g
  cases q : K.lookup (d.spot K) with
  | none => rw [q] at g; cases g
  | some o =>
    obtain ⟨oc, od, dt, osl⟩ := o
    rw [q] at e g
    cases dt with
    | func fd =>
      obtain ⟨n1, n2, n3, n4, n5, n6, n7, n8, n9, n10, n11, n12, n13, n14, n15⟩ := fd
      have e2 : (some (n1, n2, n3, n4, n5, n6, n7, n15) : He.FnW) = some (d.name, d.qual, defArgs d.st, .stmts (defBody d.st), defScope d.st, mainGlobals, [], builtinsNs) := e
      have g2 : (PySem.W.keepIn K (.ref (d.spot K)) && (PySem.W.codeIn K n13 d.qual && isNon n8)) = true := g
      obtain ⟨g3, g4⟩ := Bool.and_eq_true_iff.mp g2
      obtain ⟨g5, g6⟩ := Bool.and_eq_true_iff.mp g4
      have e8 : n8 = .none := by
        cases n8 with
        | none => rfl
        | _ => cases g6
      simp only [Option.some.injEq, Prod.mk.injEq] at e2
      obtain ⟨h1, h2, h3, h4, h5, h6, h7, h8⟩ := e2
      subst h1 h2 h3 h4 h5 h6 h7 h8 e8
      exact ⟨_, ⟨oc, od, n9, n10, n11, n12, n13, n14, osl, rfl, q, g5⟩, g3⟩
    | _ => cases g
abbrev Ob : Type := Bool × List He.FnW
def see (fa : List (Frag → Bool)) (ds : List Dd) (K : Frag) : Ob := ((fa.all fun f => f K) && ds.all fun d => d.good K, ds.map fun d => d.fnd K)
def want (ds : List Dd) : Ob := (true, ds.map Dd.due)
def Told (fa : List (Frag → Bool)) (ds : List Dd) (K : Frag) : Prop := see fa ds K = want ds
def seeG (n : Nat) (fa : List (Frag → Bool)) (ds : List Dd) (g : Addr → Option Obj) : Ob := see fa ds (He.frG g (sysModules :: He.asD g n))
def hook (n : Nat) (fa : List (Frag → Bool)) (ds : List Dd) : PySem.W.Hook where
  α := Ob
  obs := fun s => seeG n fa ds s.heap.get?
  val := fun _ => want ds
  says := fun _ h => ∃ K : Frag, K.In h ∧ Told fa ds K
  of := fun _ _ e => ⟨_, He.frG_in, e⟩
  keeps := fun _ _ _ ⟨K, hK, c⟩ k => ⟨K, PySem.W.Frag.In.keeps hK k, c⟩
def obT (n : Nat) (fa : List (Frag → Bool)) (ds : List Dd) (s : PySem.W.SharedT) : Ob := seeG n fa ds (HandSHeadRun.getT s)
theorem obT_eq {n : Nat} {fa : List (Frag → Bool)} {ds : List Dd} (s : PySem.W.SharedT) : obT n fa ds s = (hook n fa ds).obs s.abs := by
  have e : HandSHeadRun.getT s = s.abs.heap.get? := funext (HandSHeadRun.getT_eq s)
  show seeG n fa ds (HandSHeadRun.getT s) = seeG n fa ds s.abs.heap.get?
  rw [e]
section
variable {fa : List (Frag → Bool)} {ds : List Dd} {K : Frag}
theorem Told.fact (c : Told fa ds K) (i : Nat) {f : Frag → Bool} (h : fa[i]? = some f) : f K = true := by
  have c1 := congrArg (fun z : Ob => z.1) c
  have c2 := (Bool.and_eq_true_iff.mp (show ((fa.all fun f => f K) && ds.all fun d => d.good K) = true from c1)).1
  exact List.all_eq_true.mp c2 f (List.mem_of_getElem? h)
theorem Told.def_ (c : Told fa ds K) (i : Nat) {d : Dd} (h : ds[i]? = some d) : ∃ fd, Fun K d.name d.qual d.st (d.spot K) fd := by
  have c1 := congrArg (fun z : Ob => z.1) c
  have c2 := (Bool.and_eq_true_iff.mp (show ((fa.all fun f => f K) && ds.all fun d => d.good K) = true from c1)).2
  have e : ds.map (fun d => d.fnd K) = ds.map Dd.due := congrArg (fun z : Ob => z.2) c
  have e2 : (ds.map fun d => d.fnd K)[i]? = (ds.map Dd.due)[i]? := by rw [e]
  rw [List.getElem?_map, List.getElem?_map, h] at e2
  exact Dd.fun_ (Option.some.inj e2) (List.all_eq_true.mp c2 d (List.mem_of_getElem? h))
end
/-! facts -/
def fo (f : He.Fa) : Frag → Bool := fun K => f.ok K
/-- the property's getter -/
def ga2 (K : Frag) (C f : Str) : Addr := match PySem.W.recIn K (He.ma K (He.ga K C) f) "property" with
  | some (.ref g :: _) => g
  | _ => 0
def isRefHd (o : Option (List Value)) (g : Addr) : Bool := match o with
  | some (.ref h :: _) => decide (h = g)
  | _ => false
/-- the class C has the name f as a property -/
def propB (C f : Str) : Frag → Bool := fun K => He.eqO (PySem.W.findIn K (.ref (He.ga K C)) f) (some (some (.ref (He.ma K (He.ga K C) f)))) &&
  (He.eqO (PySem.W.specialIn K (.ref (He.ma K (He.ga K C) f)) "__get__") (some (some (.builtin "property.__get__"))) &&
  (decide (PySem.W.takesIn K (.ref (He.ma K (He.ga K C) f)) = some true) && isRefHd (PySem.W.recIn K (He.ma K (He.ga K C) f) "property") (ga2 K C f)))
theorem propB_ok {C f : Str} {K : Frag} (h : propB C f K = true) : PropOf K (He.ga K C) f (He.ma K (He.ga K C) f) (ga2 K C f) := by
  obtain ⟨h1, h⟩ := Bool.and_eq_true_iff.mp h
  obtain ⟨h2, h⟩ := Bool.and_eq_true_iff.mp h
  obtain ⟨h3, h4⟩ := Bool.and_eq_true_iff.mp h
  refine ⟨He.eqO_ok h1, He.eqO_ok h2, of_decide_eq_true h3, ?_⟩
  unfold isRefHd at h4
  cases q : PySem.W.recIn K (He.ma K (He.ga K C) f) "property" with
  | none => rw [q] at h4; cases h4
  | some l =>
    rw [q] at h4
    cases l with
    | nil => cases h4
    | cons v r =>
      cases v with
      | ref g =>
        have e : g = ga2 K C f := of_decide_eq_true h4
        exact ⟨r, by rw [e]⟩
      | _ => cases h4
/-- how the law's def binds, at every heap -/
theorem bindsA {K : Frag} {x qual : Str} {st : Stmt} {f : Addr} {fd : FuncData} {ps : List Str} (F : Fun K x qual st f fd)
    (h : ∀ (kV doc pm : Value) (an : Option Addr) (cdv ct : Value) (us : List Value), us.length = ps.length → bindArgs (PySem.W.fnOf x qual (defArgs st) (defBody st) (defScope st) .none kV doc pm an cdv ct) ⟨us, []⟩ = pure (ps.zip us))
    (s : Shared) (us : List Value) (hl : us.length = ps.length) : BindsTo s fd ⟨us, []⟩ (ps.zip us) := by
  obtain ⟨_, _, kV, doc, pm, an, cdv, ct, _, e, _⟩ := F.ex
  subst e
  exact BindsTo.of_eq (h kV doc pm an cdv ct us hl)
end Oh

namespace Oh
open PySem PySem.Spec PyProof.Rows L2
/-- a class's __init__ that says super(): the class's name, its field, the def -/
structure Sd where
  cls : Str
  fld : Str
  qual : Str
  st : Stmt
abbrev Sd.spot (d : Sd) (K : Frag) : Addr := He.ma K (He.ga K d.cls) "__init__"
def Sd.fnd (d : Sd) (K : Frag) : He.FnW := (K.lookup (d.spot K)).bind fun o => match o.data with
  | .func fd => some (fd.name, fd.qualname, fd.params, fd.body, fd.scope, fd.globals, [], fd.builtins)
  | _ => none
def Sd.due (d : Sd) : He.FnW := some ("__init__", d.qual, defArgs d.st, .stmts (defBody d.st), defScope d.st, mainGlobals, [], builtinsNs)
/-- the cell holds the class, the code is of the file -/
def cellB (K : Frag) (C : Addr) : List (Str × Addr) → Bool
  | [(n, cc)] => decide (n = "__class__") && (match K.lookup cc with
    | some o => (match o.data with
      | .cell (some (.ref D)) => decide (D = C)
      | _ => false)
    | none => false)
  | _ => false
def fileB (K : Frag) (file : Str) : Value → Bool
  | .ref cda => (match K.lookup cda with
    | some o => (match o.data with
      | .fields vs => (match (vs[2]? : Option Value) with
        | some (Value.str f _) => decide (f = file)
        | _ => false)
      | _ => false)
    | none => false)
  | _ => false
def Sd.good (d : Sd) (file : Str) (K : Frag) : Bool := match K.lookup (d.spot K) with
  | some o => (match o.data with
    | .func fd => cellB K (He.ga K d.cls) fd.closure && (fileB K file fd.code && (PySem.W.codeIn K fd.code d.qual && isNon fd.defaults))
    | _ => false)
  | none => false
/-- the class's object -/
def oexB (K : Frag) (C : Addr) : Bool := match K.lookup C with
  | some ⟨.type "type", _, .cls cd, sl⟩ => (match cd.mro, sl.toList with
    | .ref C' :: bm, [_, _, _, _, some (.builtin n), _] => C' == C && n == "ValueError.__new__" && !cd.hasDel && cd.hasDict && PySem.HandSPX.refsVE bm
    | _, _ => false)
  | _ => false
/-- all that the written part says of the class, as one Bool -/
def supB (x y : Str) : Frag → Bool := fun K =>
  oexB K (He.ga K x) && (He.eqO (PySem.W.findIn K (.ref (He.ga K x)) "__setattr__") (some (some (.builtin "object.__setattr__"))) && (He.eqO (PySem.W.findIn K (.ref (He.ga K x)) "__getattribute__") (some (some (.builtin "BaseException.__getattribute__"))) &&
  (He.eqO (PySem.W.findIn K (.ref (He.ga K x)) "__getattr__") (some none) && (He.eqO (PySem.W.findIn K (.ref (He.ga K x)) y) (some none) && (He.eqO (PySem.W.findIn K (.ref (He.ga K x)) "__init__") (some (some (.ref (He.ma K (He.ga K x) "__init__")))) &&
  (decide (PySem.W.typeIn K (.ref (He.ma K (He.ga K x) "__init__")) = some (.type "function")) && (PySem.W.keepIn K (.ref (He.ga K x)) && (decide (PySem.W.subIn K (.ref (He.ga K x)) (.type "BaseException") = some true) && (decide (PySem.W.subIn K (.ref (He.ga K x)) (.type "ValueError") = some true) &&
  (decide (PySem.W.mroIn K (He.ga K x) (.ref (He.ga K x)) = some true) && (decide (PySem.W.typeIn K (.ref (He.ga K x)) = some (.type "type")) && (PySem.W.hasDictIn K (He.ga K x) && (He.eqO (PySem.W.nsIn K PySem.cStatics "thirdparty.any") (some none) &&
  He.eqO (PySem.W.ks_superIn K (He.ga K x) (He.ga K x) "__init__") (some (some (.builtin "ValueError.__init__"))))))))))))))))
def see2 (file : Str) (fa : List (Frag → Bool)) (ds : List Dd) (ss : List Sd) (K : Frag) : Ob := ((fa.all fun f => f K) && (ds.all (fun d => d.good K) && ss.all fun d => d.good file K), ds.map (fun d => d.fnd K) ++ ss.map fun d => d.fnd K)
def want2 (ds : List Dd) (ss : List Sd) : Ob := (true, ds.map Dd.due ++ ss.map Sd.due)
def Told2 (file : Str) (fa : List (Frag → Bool)) (ds : List Dd) (ss : List Sd) (K : Frag) : Prop := see2 file fa ds ss K = want2 ds ss
def seeG2 (n : Nat) (file : Str) (fa : List (Frag → Bool)) (ds : List Dd) (ss : List Sd) (g : Addr → Option Obj) : Ob := see2 file fa ds ss (He.frG g (cStatics :: sysModules :: He.asD g n))
def hook2 (n : Nat) (file : Str) (fa : List (Frag → Bool)) (ds : List Dd) (ss : List Sd) : PySem.W.Hook where
  α := Ob
  obs := fun s => seeG2 n file fa ds ss s.heap.get?
  val := fun _ => want2 ds ss
  says := fun _ h => ∃ K : Frag, K.In h ∧ Told2 file fa ds ss K
  of := fun _ _ e => ⟨_, He.frG_in, e⟩
  keeps := fun _ _ _ ⟨K, hK, c⟩ k => ⟨K, PySem.W.Frag.In.keeps hK k, c⟩
def obT2 (n : Nat) (file : Str) (fa : List (Frag → Bool)) (ds : List Dd) (ss : List Sd) (s : PySem.W.SharedT) : Ob := seeG2 n file fa ds ss (HandSHeadRun.getT s)
theorem obT2_eq {n : Nat} {file : Str} {fa : List (Frag → Bool)} {ds : List Dd} {ss : List Sd} (s : PySem.W.SharedT) : obT2 n file fa ds ss s = (hook2 n file fa ds ss).obs s.abs := by
  have e : HandSHeadRun.getT s = s.abs.heap.get? := funext (HandSHeadRun.getT_eq s)
  show seeG2 n file fa ds ss (HandSHeadRun.getT s) = seeG2 n file fa ds ss s.abs.heap.get?
  rw [e]
end Oh
namespace Oh
open PySem PySem.Spec PyProof.Rows L2
/-! the hook over places that are told by number -/
def hookA2 (as : List Addr) (file : Str) (fa : List (Frag → Bool)) (ds : List Dd) (ss : List Sd) : PySem.W.Hook where
  α := Ob
  obs := fun s => see2 file fa ds ss (He.frG s.heap.get? as)
  val := fun _ => want2 ds ss
  says := fun _ h => ∃ K : Frag, K.In h ∧ Told2 file fa ds ss K
  of := fun _ _ e => ⟨_, He.frG_in, e⟩
  keeps := fun _ _ _ ⟨K, hK, c⟩ k => ⟨K, PySem.W.Frag.In.keeps hK k, c⟩
def obTA2 (as : List Addr) (file : Str) (fa : List (Frag → Bool)) (ds : List Dd) (ss : List Sd) (s : PySem.W.SharedT) : Ob := see2 file fa ds ss (He.frG (HandSHeadRun.getT s) as)
theorem obTA2_eq {as : List Addr} {file : Str} {fa : List (Frag → Bool)} {ds : List Dd} {ss : List Sd} (s : PySem.W.SharedT) : obTA2 as file fa ds ss s = (hookA2 as file fa ds ss).obs s.abs := by
  have e : HandSHeadRun.getT s = s.abs.heap.get? := funext (HandSHeadRun.getT_eq s)
  show see2 file fa ds ss (He.frG (HandSHeadRun.getT s) as) = see2 file fa ds ss (He.frG s.abs.heap.get? as)
  rw [e]
end Oh

namespace Ox
open PySem PySem.Spec PyProof.Rows L2
def iscB (C : Str) : PySem.W.Frag → Bool := fun K => (He.Fa.cls C).ok K && (He.eqO (PySem.W.findIn K (.ref (He.ga K C)) "__class__") (some (some (.builtin "object.__class__"))) && (He.eqO (PySem.W.specialIn K (.builtin "object.__class__") "__get__") (some (some (.builtin "getset_descriptor.__get__"))) &&
  (decide (PySem.W.takesIn K (.builtin "object.__class__") = some true) && decide (PySem.W.mroIn K (He.ga K C) (.type "object") = some true))))
def kitF (C D : Str) (b : Bool) : PySem.W.Frag → Bool := fun K => decide (PySem.W.kitOne K (.ref (He.ga K C)) (.ref (He.ga K D)) = some b)
abbrev veB : List Value := [.type "ValueError", .type "Exception", .type "BaseException", .type "object"]
def exc0F (x : Str) : PySem.W.Frag → Bool := fun K => PySem.W.excIn K (He.ga K x) veB "ValueError.__new__" && (PySem.W.keepIn K (.ref (He.ga K x)) && (decide (PySem.W.subIn K (.ref (He.ga K x)) (.type "BaseException") = some true) && decide (PySem.W.typeIn K (.ref (He.ga K x)) = some (.type "type"))))
def excCF (x : Str) : PySem.W.Frag → Bool := fun K => xfB K (He.ga K x) && (He.eqO (PySem.W.findIn K (.ref (He.ga K x)) "__class__") (some (some (.builtin "object.__class__"))) && (He.eqO (PySem.W.specialIn K (.builtin "object.__class__") "__get__") (some (some (.builtin "getset_descriptor.__get__"))) &&
  (decide (PySem.W.takesIn K (.builtin "object.__class__") = some true) && decide (PySem.W.mroIn K (He.ga K x) (.type "object") = some true))))
def exmF (C D : Str) (b : Bool) : PySem.W.Frag → Bool := fun K => decide (PySem.W.exmOne K (.ref (He.ga K C)) (.ref (He.ga K D)) = some b)
def kitTF (C : Str) (T : String) (b : Bool) : PySem.W.Frag → Bool := fun K => decide (PySem.W.kitOne K (.ref (He.ga K C)) (.type T) = some b)
end Ox
namespace Law
open PySem PySem.Spec PyProof.Rows L2 Ox
def top (i : Nat) : Stmt := PySem.Challenge.pw_ownslips_k69_books_judged_and_breaches.main.body.getD i (.Pass ⟨0, 0, 0, 0⟩)
abbrev s_is_integer : Stmt := top 1
abbrev s_is_name : Stmt := top 2
abbrev s_is_row : Stmt := top 3
abbrev s_is_pair : Stmt := top 4
abbrev s_passed : Stmt := top 13
abbrev s_movers : Stmt := top 14
abbrev s_is_entry : Stmt := top 16
abbrev s_is_book : Stmt := top 17
abbrev s_let_steps : Stmt := top 18
abbrev s_first_breach : Stmt := top 19
abbrev s_is_moves : Stmt := top 21
abbrev s_is_draws : Stmt := top 22
abbrev s_is_stand : Stmt := top 23
abbrev s_are_stands : Stmt := top 24
abbrev s_copied : Stmt := top 25
abbrev s_leads : Stmt := top 26
abbrev s_is_ringless : Stmt := top 27
abbrev s_Work_init : Stmt := inClass (top 28) 0
abbrev s_Work_stands : Stmt := inClass (top 28) 1
abbrev s_Work_eq : Stmt := inClass (top 28) 2
abbrev s_Work_row : Stmt := inClass (top 28) 3
abbrev s_Work_kind : Stmt := inClass (top 28) 4
abbrev s_Work_mover : Stmt := inClass (top 28) 5
abbrev s_Work_steps : Stmt := inClass (top 28) 6
abbrev s_Work_to : Stmt := inClass (top 28) 7
abbrev s_Work_weight : Stmt := inClass (top 28) 8
abbrev s_l_open : Stmt := top 30
abbrev s_draw : Stmt := top 31
abbrev s_l_names : Stmt := top 32
abbrev s_l_target : Stmt := top 33
abbrev s_l_menu : Stmt := top 34
abbrev s_l_stand : Stmt := top 35
abbrev s_l_stands : Stmt := top 36
abbrev s_l_build : Stmt := top 37
abbrev s_l_steps : Stmt := top 38
abbrev s_l_to : Stmt := top 39
abbrev s_l_mover : Stmt := top 40
abbrev s_l_book : Stmt := top 41
abbrev s_l_same : Stmt := top 42
abbrev s_l_entry : Stmt := top 43
abbrev s_l_right : Stmt := top 44
abbrev s_l_spoiled : Stmt := top 45
abbrev s_l_run : Stmt := top 46
abbrev s_l_breach : Stmt := top 47
abbrev s_l_asked : Stmt := top 48
abbrev s_law : Stmt := top 49
end Law
/-! the head -/
namespace Law
open PySem PySem.Spec PyProof.Rows L2 Ox
def d_law : Oh.Dd := ⟨fun K => He.ga K "law", "law", "law", s_law⟩
def d_l_build : Oh.Dd := ⟨fun K => He.ga K "_law_build", "_law_build", "_law_build", s_l_build⟩
def d_l_open : Oh.Dd := ⟨fun K => He.ga K "_law_open", "_law_open", "_law_open", s_l_open⟩
def d_draw : Oh.Dd := ⟨fun K => He.ga K "_law_draw", "_law_draw", "_law_draw", s_draw⟩
def d_l_names : Oh.Dd := ⟨fun K => He.ga K "_law_names", "_law_names", "_law_names", s_l_names⟩
def d_l_stands : Oh.Dd := ⟨fun K => He.ga K "_law_stands", "_law_stands", "_law_stands", s_l_stands⟩
def d_l_menu : Oh.Dd := ⟨fun K => He.ga K "_law_menu", "_law_menu", "_law_menu", s_l_menu⟩
def d_l_stand : Oh.Dd := ⟨fun K => He.ga K "_law_stand", "_law_stand", "_law_stand", s_l_stand⟩
def d_l_target : Oh.Dd := ⟨fun K => He.ga K "_law_target", "_law_target", "_law_target", s_l_target⟩
def d_l_book : Oh.Dd := ⟨fun K => He.ga K "_law_book", "_law_book", "_law_book", s_l_book⟩
def d_l_steps : Oh.Dd := ⟨fun K => He.ga K "_law_steps", "_law_steps", "_law_steps", s_l_steps⟩
def d_l_run : Oh.Dd := ⟨fun K => He.ga K "_law_run", "_law_run", "_law_run", s_l_run⟩
def d_l_to : Oh.Dd := ⟨fun K => He.ga K "_law_to", "_law_to", "_law_to", s_l_to⟩
def d_Work_init : Oh.Dd := ⟨fun K => He.ma K (He.ga K "Work") "__init__", "__init__", "Work.__init__", s_Work_init⟩
def d_is_integer : Oh.Dd := ⟨fun K => He.ga K "is_integer", "is_integer", "is_integer", s_is_integer⟩
def d_is_name : Oh.Dd := ⟨fun K => He.ga K "is_name", "is_name", "is_name", s_is_name⟩
def d_are_stands : Oh.Dd := ⟨fun K => He.ga K "are_stands", "are_stands", "are_stands", s_are_stands⟩
def d_is_stand : Oh.Dd := ⟨fun K => He.ga K "is_stand", "is_stand", "is_stand", s_is_stand⟩
def d_is_moves : Oh.Dd := ⟨fun K => He.ga K "is_moves", "is_moves", "is_moves", s_is_moves⟩
def d_is_draws : Oh.Dd := ⟨fun K => He.ga K "is_draws", "is_draws", "is_draws", s_is_draws⟩
def d_is_pair : Oh.Dd := ⟨fun K => He.ga K "is_pair", "is_pair", "is_pair", s_is_pair⟩
def d_copied : Oh.Dd := ⟨fun K => He.ga K "copied", "copied", "copied", s_copied⟩
def d_is_ringless : Oh.Dd := ⟨fun K => He.ga K "is_ringless", "is_ringless", "is_ringless", s_is_ringless⟩
def d_leads : Oh.Dd := ⟨fun K => He.ga K "leads", "leads", "leads", s_leads⟩
def d_is_book : Oh.Dd := ⟨fun K => He.ga K "is_book", "is_book", "is_book", s_is_book⟩
def d_Work_kind : Oh.Dd := ⟨fun K => He.ma K (He.ga K "Work") "kind", "kind", "Work.kind", s_Work_kind⟩
def d_Work_row : Oh.Dd := ⟨fun K => He.ma K (He.ga K "Work") "row", "row", "Work.row", s_Work_row⟩
def d_Work_steps : Oh.Dd := ⟨fun K => He.ma K (He.ga K "Work") "steps", "steps", "Work.steps", s_Work_steps⟩
def d_is_entry : Oh.Dd := ⟨fun K => He.ga K "is_entry", "is_entry", "is_entry", s_is_entry⟩
def d_l_spoiled : Oh.Dd := ⟨fun K => He.ga K "_law_spoiled", "_law_spoiled", "_law_spoiled", s_l_spoiled⟩
def d_l_right : Oh.Dd := ⟨fun K => He.ga K "_law_right", "_law_right", "_law_right", s_l_right⟩
def d_l_entry : Oh.Dd := ⟨fun K => He.ga K "_law_entry", "_law_entry", "_law_entry", s_l_entry⟩
def d_l_same : Oh.Dd := ⟨fun K => He.ga K "_law_same", "_law_same", "_law_same", s_l_same⟩
def d_l_asked : Oh.Dd := ⟨fun K => He.ga K "_law_asked", "_law_asked", "_law_asked", s_l_asked⟩
def d_first_breach : Oh.Dd := ⟨fun K => He.ga K "first_breach", "first_breach", "first_breach", s_first_breach⟩
def d_passed : Oh.Dd := ⟨fun K => He.ga K "passed", "passed", "passed", s_passed⟩
def d_is_row : Oh.Dd := ⟨fun K => He.ga K "is_row", "is_row", "is_row", s_is_row⟩
def d_Work_to : Oh.Dd := ⟨fun K => He.ma K (He.ga K "Work") "to", "to", "Work.to", s_Work_to⟩
def d_movers : Oh.Dd := ⟨fun K => He.ga K "movers", "movers", "movers", s_movers⟩
def d_Work_mover : Oh.Dd := ⟨fun K => He.ma K (He.ga K "Work") "mover", "mover", "Work.mover", s_Work_mover⟩
def d_let_steps : Oh.Dd := ⟨fun K => He.ga K "let_steps", "let_steps", "let_steps", s_let_steps⟩
def d_l_breach : Oh.Dd := ⟨fun K => He.ga K "_law_breach", "_law_breach", "_law_breach", s_l_breach⟩
def d_l_mover : Oh.Dd := ⟨fun K => He.ga K "_law_mover", "_law_mover", "_law_mover", s_l_mover⟩
abbrev ds0 : List Oh.Dd := [d_law, d_l_build, d_l_open, d_draw, d_l_names, d_l_stands, d_l_menu, d_l_stand, d_l_target, d_l_book, d_l_steps, d_l_run, d_l_to, d_Work_init, d_is_integer, d_is_name, d_are_stands, d_is_stand, d_is_moves, d_is_draws, d_is_pair, d_copied, d_is_ringless, d_leads, d_is_book, d_Work_kind, d_Work_row, d_Work_steps, d_is_entry, d_l_spoiled]
abbrev ds1 : List Oh.Dd := [d_l_right, d_l_entry, d_l_same, d_l_asked, d_first_breach, d_passed, d_is_row, d_Work_to, d_movers, d_Work_mover, d_let_steps, d_l_breach, d_l_mover]
abbrev dsA : List Oh.Dd := ds0 ++ ds1
abbrev fa0 : List (Oh.Frag → Bool) := [Oh.fo (.glo "law"), Oh.fo (.free "len"), Oh.fo (.free "tuple"), Oh.fo (.free "repr"), fun K => (K.lookup sysModules).isSome, Oh.fo (.free "int"), Oh.fo (.glo "_law_open"), Oh.fo (.glo "_law_draw"), Oh.fo (.free "range"), Oh.fo (.free "str"), Oh.fo (.glo "_law_names"), Oh.fo (.glo "_law_menu"), Oh.fo (.glo "_law_target"), Oh.fo (.glo "_law_stand"), Oh.fo (.glo "_law_stands"), Oh.fo (.glo "_law_build"), Oh.fo (.free "sorted"), Oh.fo (.glo "_law_steps"), Oh.fo (.glo "_law_book"), Oh.fo (.free "min"), Oh.fo (.glo "_law_to"), Oh.fo (.glo "_law_run"), Oh.fo (.cls "Work"), Oh.fo (.noat "Work" "hands"), Oh.fo (.noat "Work" "start"), Oh.fo (.noat "Work" "table"), Oh.fo (.noat "Work" "names"), Oh.fo (.noat "Work" "ends"), Oh.fo (.noat "Work" "ringless"), Oh.fo (.free "bool")]
abbrev fa1 : List (Oh.Frag → Bool) := [Oh.fo (.free "isinstance"), Oh.fo (.glo "is_integer"), Oh.fo (.glo "is_name"), Oh.fo (.free "dict"), Oh.fo (.glo "is_moves"), Oh.fo (.glo "is_pair"), Oh.fo (.glo "is_draws"), Oh.fo (.glo "is_stand"), Oh.fo (.glo "are_stands"), Oh.fo (.glo "copied"), Oh.fo (.free "list"), Oh.fo (.free "all"), Oh.fo (.glo "leads"), Oh.fo (.glo "is_ringless"), Oh.fo (.mkr "Work"), Oh.fo (.glo "Work"), Oh.fo (.meth "Work" "row"), Oh.fo (.meth "Work" "kind"), Oh.fo (.meth "Work" "steps"), Oh.fo (.free "enumerate"), Oh.fo (.glo "is_entry"), Oh.fo (.glo "is_book"), Oh.fo (.glo "_law_spoiled"), Oh.fo (.glo "_law_entry"), Oh.fo (.glo "_law_right"), Oh.fo (.glo "_law_same"), Oh.fo (.glo "BadBook"), Oh.fo (.glo "BadRun"), Oh.fo (.glo "OwnError"), Oh.supB "BadRun" "index"]
abbrev fa2 : List (Oh.Frag → Bool) := [exmF "BadBook" "BadBook" true, exmF "BadRun" "BadBook" false, exmF "BadRun" "BadRun" true, excCF "BadBook", kitF "BadBook" "OwnError" true, Oh.fo (.glo "is_row"), Oh.fo (.meth "Work" "to"), Oh.fo (.free "super"), Oh.fo (.glo "passed"), Oh.fo (.meth "Work" "mover"), Oh.fo (.glo "movers"), Oh.fo (.glo "let_steps"), exc0F "BadBook", Oh.fo (.glo "first_breach"), Oh.fo (.glo "_law_asked"), Oh.fo (.glo "_law_mover"), Oh.fo (.glo "_law_breach")]
abbrev faA : List (Oh.Frag → Bool) := fa0 ++ fa1 ++ fa2
abbrev lo0 : List Str := ["is_integer", "is_name", "is_row", "is_pair", "OwnError", "BadWork", "NoStand", "NoStep", "BadRun", "BadBook", "passed", "movers", "is_entry", "is_book", "let_steps", "first_breach", "is_moves", "is_draws", "is_stand", "are_stands", "copied", "leads", "is_ringless", "Work", "_law_open", "_law_draw", "_law_names", "_law_target", "_law_menu", "_law_stand"]
abbrev lo1 : List Str := ["_law_stands", "_law_build", "_law_steps", "_law_to", "_law_mover", "_law_book", "_law_same", "_law_entry", "_law_right", "_law_spoiled", "_law_run", "_law_breach", "_law_asked"]
abbrev loA : List Str := lo0 ++ lo1
def u_BadRun : Oh.Sd := ⟨"BadRun", "index", "BadRun.__init__", inClass (top 10) 0⟩
abbrev ssA : List Oh.Sd := [u_BadRun]
abbrev Rw : PySem.W.OpenRow := PySem.W.OpenLaw.row PySem.Challenge.rw_ownslips_k69_books_judged_and_breaches
abbrev as0 : List Addr := [2, 1, 3, 6, 4, 21, 28, 35, 42, 52, 74, 95, 116, 137, 149, 158, 163, 170, 177, 184, 191, 198, 205, 212, 219, 224, 229, 234, 304, 315, 322, 329, 336, 343, 350, 357, 364, 371, 378, 385, 390, 397, 402, 409, 416, 423, 430, 437, 444, 0, 20, 27, 34, 41, 51, 73, 94, 115, 136, 148, 157, 162, 169, 176, 183, 190, 197, 204, 211, 218, 223, 228, 233, 303, 314, 321, 328, 335, 342, 349, 356, 363, 370, 377, 384, 389, 396, 401, 408, 415, 422, 429, 436, 443, 15, 16, 17, 18, 19, 22]
abbrev as1 : List Addr := [23, 24, 25, 26, 29, 30, 31, 32, 33, 36, 37, 38, 39, 40, 50, 53, 71, 72, 92, 93, 113, 114, 134, 135, 147, 152, 153, 154, 155, 156, 159, 160, 161, 164, 165, 166, 167, 168, 171, 172, 173, 174, 175, 178, 179, 180, 181, 182, 185, 186, 187, 188, 189, 192, 193, 194, 195, 196, 199, 200, 201, 202, 203, 206, 207, 208, 209, 210, 213, 214, 215, 216, 217, 220, 221, 222, 225, 226, 227, 230, 231, 232, 246, 252, 259, 266, 273, 280, 287, 294, 301, 302, 305, 306, 309, 310, 311, 312, 313, 316]
abbrev as2 : List Addr := [317, 318, 319, 320, 323, 324, 325, 326, 327, 330, 331, 332, 333, 334, 337, 338, 339, 340, 341, 344, 345, 346, 347, 348, 351, 352, 353, 354, 355, 358, 359, 360, 361, 362, 365, 366, 367, 368, 369, 372, 373, 374, 375, 376, 379, 380, 381, 382, 383, 386, 387, 388, 391, 392, 393, 394, 395, 398, 399, 400, 403, 404, 405, 406, 407, 410, 411, 412, 413, 414, 417, 418, 419, 420, 421, 424, 425, 426, 427, 428, 431, 432, 433, 434, 435, 438, 439, 440, 441, 442, 70, 59, 91, 80, 112, 101, 133, 122, 245, 251]
abbrev as3 : List Addr := [258, 265, 272, 279, 286, 293, 300, 65, 66, 67, 68, 69, 86, 87, 88, 89, 90, 107, 108, 109, 110, 111, 128, 129, 130, 131, 132, 242, 243, 244, 250, 253, 254, 255, 256, 257, 260, 261, 262, 263, 264, 267, 268, 269, 270, 271, 274, 275, 276, 277, 278, 281, 282, 283, 284, 285, 288, 289, 290, 291, 292, 295, 296, 297, 298, 299, 247, 248, 249]
abbrev asA : List Addr := as0 ++ as1 ++ as2 ++ as3
abbrev hk : PySem.W.Hook := Oh.hookA2 asA "/claim/cut.py" faA dsA ssA
def ob (s : PySem.W.SharedT) : Oh.Ob := Oh.obTA2 asA "/claim/cut.py" faA dsA ssA s
theorem ob_eq (s : PySem.W.SharedT) : ob s = hk.obs s.abs := Oh.obTA2_eq s
theorem run (w : World) : HandSHeadRun.RunEq Rw (PySem.W.view Rw.prog [49]) hk ob 6000 loA w := by
  intro os
  kernel_rfl
end Law
namespace Law
open PySem PySem.W PySem.Calls PyProof.Rows
theorem hz1 : opening (PySem.W.OpenLaw.row PySem.Challenge.rw_ownslips_k69_books_judged_and_breaches).prog = plainProg (PySem.W.OpenLaw.row PySem.Challenge.rw_ownslips_k69_books_judged_and_breaches).prog.main.scope.names := by kernel_rfl
theorem hz2 : ∀ s, fenceModules? (PySem.W.OpenLaw.row PySem.Challenge.rw_ownslips_k69_books_judged_and_breaches).prog s = some s := fun s => by kernel_rfl
theorem hz3 : defOf (view (PySem.W.OpenLaw.row PySem.Challenge.rw_ownslips_k69_books_judged_and_breaches).prog [49]) (PySem.W.OpenLaw.row PySem.Challenge.rw_ownslips_k69_books_judged_and_breaches).name = some ((HandSHeadRun.topDef (PySem.W.OpenLaw.row PySem.Challenge.rw_ownslips_k69_books_judged_and_breaches).prog 49), []) := by kernel_rfl
theorem hz4 : (PySem.W.OpenLaw.row PySem.Challenge.rw_ownslips_k69_books_judged_and_breaches).prog.theDef (PySem.W.OpenLaw.row PySem.Challenge.rw_ownslips_k69_books_judged_and_breaches).name = some ((HandSHeadRun.topDef (PySem.W.OpenLaw.row PySem.Challenge.rw_ownslips_k69_books_judged_and_breaches).prog 49).params, (HandSHeadRun.topDef (PySem.W.OpenLaw.row PySem.Challenge.rw_ownslips_k69_books_judged_and_breaches).prog 49).body, (HandSHeadRun.topDef (PySem.W.OpenLaw.row PySem.Challenge.rw_ownslips_k69_books_judged_and_breaches).prog 49).scope) := by kernel_rfl
theorem hz5 : kwWritten? (HandSHeadRun.topDef (PySem.W.OpenLaw.row PySem.Challenge.rw_ownslips_k69_books_judged_and_breaches).prog 49).params.kwonlyargs (HandSHeadRun.topDef (PySem.W.OpenLaw.row PySem.Challenge.rw_ownslips_k69_books_judged_and_breaches).prog 49).params.kw_defaults = some [] := by kernel_rfl
theorem hz6 : (!(PySem.W.OpenLaw.row PySem.Challenge.rw_ownslips_k69_books_judged_and_breaches).writes || (PySem.W.OpenLaw.row PySem.Challenge.rw_ownslips_k69_books_judged_and_breaches).records.isEmpty) = true := by rfl
theorem hz7 : (PySem.W.OpenLaw.row PySem.Challenge.rw_ownslips_k69_books_judged_and_breaches).wellSaid = true := by decide +kernel
theorem hz8 : (chainsOk (view (PySem.W.OpenLaw.row PySem.Challenge.rw_ownslips_k69_books_judged_and_breaches).prog [49]) && opensWell (PySem.W.OpenLaw.row PySem.Challenge.rw_ownslips_k69_books_judged_and_breaches).prog && (frees (PySem.W.OpenLaw.row PySem.Challenge.rw_ownslips_k69_books_judged_and_breaches).toRowW && (PySem.W.OpenLaw.row PySem.Challenge.rw_ownslips_k69_books_judged_and_breaches).within.isEmpty)) = true := by decide +kernel
theorem hz9 : (PySem.W.OpenLaw.row PySem.Challenge.rw_ownslips_k69_books_judged_and_breaches).prog.bare := ⟨rfl, rfl, rfl, rfl, rfl, by decide +kernel⟩
theorem hz10 : (PySem.W.OpenLaw.row PySem.Challenge.rw_ownslips_k69_books_judged_and_breaches).toRowW.promised := by w_witness2
theorem hz0 (h : (PySem.W.OpenLaw.row PySem.Challenge.rw_ownslips_k69_books_judged_and_breaches).Holds) : PySem.Challenge.rw_ownslips_k69_books_judged_and_breaches.Holds := by
  w_on; o_law
  exact h
end Law

/-! Own layer: steps through a reading, one small lemma a construct, so that a tactic can take them by the goal's head. -/
namespace Ox
open PySem PySem.Spec PyProof.Rows L2
/-! ### further operators -/
section
variable {X : Cx}
theorem op_mulA : OpR X (binaryOp .Mult) (rI IntMulOk fun i j => .int (i * j)) := opI fun _ _ _ _ _ _ _ hc q => mul_int q hc
theorem op_fdivA : OpR X (binaryOp .FloorDiv) (rI CDivW fun i j => .int (i / j)) := op_fdivW
def CPowW (i j : Int) : Prop := 0 ≤ j ∧ (Builtin.Int.intBits i : Int) * j ≤ 2 ^ 27
theorem op_powW : OpR X (binaryOp .Pow) (rI CPowW fun i j => .int (i ^ j.toNat)) := opI fun _ _ _ _ _ _ _ hc q => pow_int hc.1 hc.2 q
end
theorem mulok_l {i j : Int} (h1 : -(2 ^ 63) ≤ i) (h2 : i < 2 ^ 63) : IntMulOk i j := CMul.ok (.inl ⟨by omega, by omega⟩)
theorem mulok_r {i j : Int} (h1 : -(2 ^ 63) ≤ j) (h2 : j < 2 ^ 63) : IntMulOk i j := CMul.ok (.inr ⟨by omega, by omega⟩)
theorem divok {i j : Int} (h : 0 < j) (h2 : j < 2 ^ 62) : CDivW i j := wide_div (b := 62) h (by omega) (by decide) (by decide)
/-! ### callees -/
section
variable (P : Program) (w : World) (K : PySem.W.Frag) (mg : Str → Option Value) (base : Heap)
/-- the module's name x is a def of level k that keeps the promise sp -/
structure Cal (k : Nat) (x : Str) (ps : List Str) (sp : Sp) : Prop where
  ex : ∃ f fd, FnOk P w K mg base CX0 k f fd ps sp ∧ mg x = some (.ref f) ∧ PySem.W.keepIn K (.ref f) = true ∧ Binds K fd ps []
/-- the module's name x is the class at C, made by an __init__ of level k -/
structure Mkc (C : Addr) (k : Nat) (x : Str) (ps : List Str) (sp : Sp) : Prop where
  ex : ∃ f fd, Mk K C f ∧ FnOk P w K mg base CX0 k f fd ps sp ∧ mg x = some (.ref C) ∧ Binds K fd ps []
structure Met (C : Addr) (k : Nat) (m : Str) (ps : List Str) (sp : Sp) : Prop where
  ex : ∃ f fd, Meth K C m f ∧ FnOk P w K mg base CX0 k f fd ps sp ∧ Binds K fd ps []
structure Prp (C : Addr) (k : Nat) (m : Str) (sp : Sp) : Prop where
  ex : ∃ p f fd, PropOf K C m p f ∧ FnOk P w K mg base CX0 k f fd ["self"] sp ∧ Binds K fd ["self"] []
end
section
variable {X : Cx} {k : Nat} {x : Str} {ps : List Str} {sp : Sp} {e : Expr} {es : List Expr} {t : TA} {pos p : Pos} {C : Addr} {ta : TE} {m : Str}
theorem pe_cal (c : Cal X.prog X.w X.K X.mg X.base k x ps sp) (hr : Room k X.A) (hg : Gl X x) (ha : PA X (e :: es) t)
    (hs : starEach (e :: es) X.env = (false, eval e X.env) :: starEach es X.env := by rfl) (hp : (backTo pos (starEach es X.env)).any (·.1) = false := by rfl)
    (hdb : (x == ("__debug__" : Str)) = false := by decide) : PE X (.Call (.Name x p) (e :: es) [] pos) (tCall sp [] E0 t) := by
  obtain ⟨f, fd, F, g, kp, b⟩ := c.ex
  exact pe_call F hr hg g kp b .nil pass0 ha hdb hs hp
theorem pe_cal0 (c : Cal X.prog X.w X.K X.mg X.base k x ps sp) (hr : Room k X.A) (hg : Gl X x)
    (hdb : (x == ("__debug__" : Str)) = false := by decide) : PE X (.Call (.Name x p) [] [] pos) (tCall sp [] E0 tNil) := by
  obtain ⟨f, fd, F, g, kp, b⟩ := c.ex
  exact pe_call0 F hr hg g kp b .nil pass0 hdb
theorem pe_mk (c : Mkc X.prog X.w X.K X.mg X.base C k x ps sp) (hr : Room (k + 1) X.A) (hg : Gl X x) (ha : PA X (e :: es) t)
    (hs : starEach (e :: es) X.env = (false, eval e X.env) :: starEach es X.env := by rfl) (hp : (backTo pos (starEach es X.env)).any (·.1) = false := by rfl)
    (hdb : (x == ("__debug__" : Str)) = false := by decide) : PE X (.Call (.Name x p) (e :: es) [] pos) (tMake C sp [] E0 t) := by
  obtain ⟨f, fd, M, F, g, b⟩ := c.ex
  exact pe_make M F hr hg g b .nil pass0 ha hdb hs hp
theorem pe_prp {p' : Expr} (c : Prp X.prog X.w X.K X.mg X.base C k m sp) (kc : Cls X.K C) (hr : Room (k + 1) X.A) (he : PE X p' ta)
    (hab : attributeBase p' m X.env (eval p' X.env) = eval p' X.env := by rfl) : PE X (.Attribute p' m pos) (tProp C sp [] E0 ta) := by
  obtain ⟨q, f, fd, hp, F, b⟩ := c.ex
  exact pe_prop he kc hp F hr b .nil pass0 hab
end
/-! ### steps -/
section
variable {σ : L2.St} {H : Hp} {Q : VK} {i : Nat} {v x y : V} {ta tb te tc : TE} {n : L2.St → Hp → Prop} {r : VK} {b c : L2.St → Hp → Prop} {t u : TS} {tt tu : TT} {R : Bool → Hp → Prop} {K : PySem.W.Frag} {al : TA} {W : List V → Hp → Prop}
theorem x_var (h : σ[i]? = some (some v)) (q : Q v H) : tVar i σ H Q := ⟨v, h, q⟩
theorem x_c (q : Q v H) : tC v σ H Q := q
theorem x_op {o : R2} (q : ta σ H fun x H1 => tb σ H1 fun y H2 => o x y H2 Q) : tOp o ta tb σ H Q := q
theorem x_un {o : V → Hp → VK → Prop} (q : ta σ H fun x H1 => o x H1 Q) : tUn o ta σ H Q := q
theorem x_I0 {g : Int → Int → V} {i j : Int} (q : Q (g i j) H) : rI0 g (.int i) (.int j) H Q := ⟨i, j, rfl, rfl, q⟩
theorem x_I {C : Int → Int → Prop} {g : Int → Int → V} {i j : Int} (hc : C i j) (q : Q (g i j) H) : rI C g (.int i) (.int j) H Q := ⟨i, j, rfl, rfl, hc, q⟩
theorem x_U {g : Int → V} {i : Int} (q : Q (g i) H) : rU g (.int i) H Q := ⟨i, rfl, q⟩
theorem x_eqI {i j : Int} (q : Q (.bl (decide (i = j))) H) : rEq (.int i) (.int j) H Q := ⟨rfl, by rw [show decide (V.int i = V.int j) = decide (i = j) from by simp]; exact q⟩
theorem x_eqS {i j : Str} (q : Q (.bl (decide (i = j))) H) : rEq (.str i) (.str j) H Q := ⟨rfl, by rw [show decide (V.str i = V.str j) = decide (i = j) from by simp]; exact q⟩
theorem x_eqB {i j : Bool} (q : Q (.bl (decide (i = j))) H) : rEq (.bl i) (.bl j) H Q := ⟨rfl, by rw [show decide (V.bl i = V.bl j) = decide (i = j) from by simp]; exact q⟩
theorem x_neI {i j : Int} (q : Q (.bl (!decide (i = j))) H) : rNe (.int i) (.int j) H Q := ⟨rfl, by rw [show decide (V.int i = V.int j) = decide (i = j) from by simp]; exact q⟩
theorem x_neS {i j : Str} (q : Q (.bl (!decide (i = j))) H) : rNe (.str i) (.str j) H Q := ⟨rfl, by rw [show decide (V.str i = V.str j) = decide (i = j) from by simp]; exact q⟩
theorem x_neB {i j : Bool} (q : Q (.bl (!decide (i = j))) H) : rNe (.bl i) (.bl j) H Q := ⟨rfl, by rw [show decide (V.bl i = V.bl j) = decide (i = j) from by simp]; exact q⟩
theorem x_bl {k : Bool} (q : R k H) : ∃ c, V.bl k = V.bl c ∧ R c H := ⟨k, rfl, q⟩
theorem x_test (q : te σ H fun x H1 => ∃ k, x = .bl k ∧ R k H1) : tTest te σ H R := q
theorem x_B (q : te σ H fun x H1 => ∃ k, x = .bl k ∧ R k H1) : tB te σ H R := q
theorem x_not (q : tt σ H fun c H1 => R (!c) H1) : tNot tt σ H R := q
theorem x_and (q : tt σ H fun c H1 => if c = true then tu σ H1 R else R false H1) : tAnd tt tu σ H R := q
theorem x_or (q : tt σ H fun c H1 => if c = true then R true H1 else tu σ H1 R) : tOr tt tu σ H R := q
theorem x_andV (q : ta σ H fun x H1 => ∃ c, x = .bl c ∧ if c = true then tb σ H1 Q else Q (.bl false) H1) : tAndV ta tb σ H Q := q
theorem x_orV (q : ta σ H fun x H1 => ∃ c, x = .bl c ∧ if c = true then Q (.bl true) H1 else tb σ H1 Q) : tOrV ta tb σ H Q := q
theorem x_notV (q : ta σ H fun x H1 => ∃ c, x = .bl c ∧ Q (.bl (!c)) H1) : tNotV ta σ H Q := q
theorem x_blV {k : Bool} {F : Bool → Prop} (q : F k) : ∃ c, V.bl k = V.bl c ∧ F c := ⟨k, rfl, q⟩
theorem x_ifE (q : tt σ H fun c H1 => if c = true then ta σ H1 Q else tb σ H1 Q) : tIf tt ta tb σ H Q := q
theorem x_chain {o o' : R2} (q : ta σ H fun x H1 => tb σ H1 fun y H2 => o x y H2 fun z H3 => ∃ k, z = .bl k ∧ (if k = true then tc σ H3 fun w' H4 => o' y w' H4 Q else Q (.bl false) H3)) : tChain o o' ta tb tc σ H Q := q
theorem x_nil (q : W [] H) : tNil σ H W := q
theorem x_cons {ar : TA} (q : ta σ H fun x H1 => ar σ H1 fun xs H2 => W (x :: xs) H2) : tCons ta ar σ H W := q
theorem x_tup (q : al σ H fun xs H1 => xs.length ≤ sizeLine ∧ ∀ p, H1 p = none → Q (.ref p) (upd H1 p (.tup xs))) : tTup al σ H Q := q
theorem x_lst (q : al σ H fun xs H1 => xs.length ≤ sizeLine ∧ ∀ p, H1 p = none → Q (.ref p) (upd H1 p (.lst xs))) : tLst al σ H Q := q
theorem x_cb {o : List V → Hp → VK → Prop} (q : al σ H fun vs H1 => o vs H1 Q) : tCB o al σ H Q := q
theorem x_call {sp : Sp} {E : XK} (q : al σ H fun vs H1 => sp vs H1 Q E) : tCall sp [] E al σ H Q := by
  show al σ H fun vs H1 => sp (vs ++ []) H1 Q E
  have e : (fun (vs : List V) (H1 : Hp) => sp (vs ++ []) H1 Q E) = fun vs H1 => sp vs H1 Q E := by
    funext vs H1
    rw [List.append_nil]
  rw [e]
  exact q
theorem x_make {C : Addr} {sp : Sp} {E : XK} (q : al σ H fun vs H1 => ∀ x dx, H1 x = none → H1 dx = none → dx ≠ x → sp (.ref x :: vs) (upd (upd H1 dx (.own x)) x (.ins C dx [])) (fun v H2 => v = .non ∧ Q (.ref x) H2) E) : tMake C sp [] E al σ H Q := by
  have e : (fun (vs : List V) (H1 : Hp) => ∀ x dx, H1 x = none → H1 dx = none → dx ≠ x → sp (.ref x :: (vs ++ [])) (upd (upd H1 dx (.own x)) x (.ins C dx [])) (fun v H2 => v = .non ∧ Q (.ref x) H2) E) =
      fun (vs : List V) (H1 : Hp) => ∀ x dx, H1 x = none → H1 dx = none → dx ≠ x → sp (.ref x :: vs) (upd (upd H1 dx (.own x)) x (.ins C dx [])) (fun v H2 => v = .non ∧ Q (.ref x) H2) E := by
    funext vs H1
    rw [List.append_nil]
  show al σ H fun vs H1 => ∀ x dx, H1 x = none → H1 dx = none → dx ≠ x → sp (.ref x :: (vs ++ [])) (upd (upd H1 dx (.own x)) x (.ins C dx [])) (fun v H2 => v = .non ∧ Q (.ref x) H2) E
  rw [e]
  exact q
/-! ### statements -/
theorem x_seq (h : t ⟨u ⟨n, r, b, c⟩, r, b, c⟩ σ H) : tSeq t u ⟨n, r, b, c⟩ σ H := h
theorem x_next (h : n σ H) : tNext ⟨n, r, b, c⟩ σ H := h
theorem x_brk (h : b σ H) : tBreak ⟨n, r, b, c⟩ σ H := h
theorem x_cont (h : c σ H) : tCont ⟨n, r, b, c⟩ σ H := h
theorem x_ret (h : te σ H r) : tRet te ⟨n, r, b, c⟩ σ H := h
theorem x_retN (h : r .non H) : tRetN ⟨n, r, b, c⟩ σ H := h
theorem x_drop (h : te σ H fun _ H1 => n σ H1) : tDrop te ⟨n, r, b, c⟩ σ H := h
theorem x_set (h : te σ H fun v H1 => n (σ.set i (some v)) H1) : tAsg te (gName i) ⟨n, r, b, c⟩ σ H := h
theorem x_if (h : tt σ H fun k H1 => if k = true then t ⟨n, r, b, c⟩ σ H1 else u ⟨n, r, b, c⟩ σ H1) : tIfS tt t u ⟨n, r, b, c⟩ σ H := h
theorem x_nx (h : n σ H) : (Ends.mk n r b c).nx σ H := h
theorem x_par {i j : Nat} (h : al σ H fun vs H1 => ∃ v w, vs = [v, w] ∧ n ((σ.set i (some v)).set j (some w)) H1) : tPar i j al ⟨n, r, b, c⟩ σ H := h
theorem x_par2 {F : V → V → Prop} {v w : V} (h : F v w) : ∃ v' w', [v, w] = [v', w'] ∧ F v' w' := ⟨v, w, rfl, h⟩
theorem x_aug {j : Nat} {tip : TIp} (hx : σ[j]? = some (some x)) (h : te σ H fun y H1 => tip x y H1 fun z H2 => n (σ.set j (some z)) H2) : tAug j te tip ⟨n, r, b, c⟩ σ H := ⟨x, hx, h⟩
theorem x_ipI {f : Int → Int → Int} {i j : Int} (q : Q (.int (f i j)) H) : ipI f (.int i) (.int j) H Q := ⟨i, j, rfl, rfl, q⟩
/-- xs[i] = v -/
theorem x_setL (h : te σ H fun v H0 => ta σ H0 fun o H1 => tb σ H1 fun k H2 => rSetL o k v H2 fun H3 => n σ H3) : tAsg te (gSub ta tb rSetL) ⟨n, r, b, c⟩ σ H := h
theorem x_setl {l : Addr} {xs : List V} {j : Nat} {k : Int} {N : Hp → Prop} (h : H l = some (.lst xs)) (hk : k = (j : Int)) (hj : j < xs.length) (q : N (upd H l (.lst (xs.set j v)))) : rSetL (.ref l) (.int k) v H N :=
  ⟨l, xs, k, j, rfl, rfl, h, by subst hk; unfold ixN; rw [if_pos (by omega), if_pos (by omega)]; simp, q⟩
/-- a test decided -/
theorem x_ite {A B : Prop} {k : Bool} (h1 : k = true → A) (h2 : k = false → B) : if k = true then A else B := by
  cases k with
  | true => exact h1 rfl
  | false =>
    show if false = true then A else B
    rw [if_neg Bool.false_ne_true]
    exact h2 rfl
theorem x_dec {A B p : Prop} [Decidable p] (h1 : p → A) (h2 : ¬ p → B) : if decide p = true then A else B := x_ite (fun e => h1 (of_decide_eq_true e)) fun e => h2 (of_decide_eq_false e)
theorem x_ndec {A B p : Prop} [Decidable p] (h1 : ¬ p → A) (h2 : p → B) : if (!decide p) = true then A else B := x_ite (fun e => h1 (of_decide_eq_false (by simpa using e))) fun e => h2 (of_decide_eq_true (by simpa using e))
theorem x_yes {A B p : Prop} [Decidable p] (hp : p) (h1 : A) : if decide p = true then A else B := x_dec (fun _ => h1) fun z => absurd hp z
theorem x_no {A B p : Prop} [Decidable p] (hp : ¬ p) (h2 : B) : if decide p = true then A else B := x_dec (fun z => absurd z hp) fun _ => h2
theorem x_T {A B : Prop} (h : A) : if true = true then A else B := x_ite (fun _ => h) fun z => by cases z
theorem x_F {A B : Prop} (h : B) : if false = true then A else B := x_ite (fun z => by cases z) fun _ => h
theorem x_nT {A B : Prop} (h : B) : if (!true) = true then A else B := x_F h
theorem x_nF {A B : Prop} (h : A) : if (!false) = true then A else B := x_T h
theorem x_nyes {A B p : Prop} [Decidable p] (hp : p) (h2 : B) : if (!decide p) = true then A else B := x_ndec (fun z => absurd hp z) fun _ => h2
theorem x_nno {A B p : Prop} [Decidable p] (hp : ¬ p) (h1 : A) : if (!decide p) = true then A else B := x_ndec (fun _ => h1) fun z => absurd z hp
/-! ### values of built-ins -/
theorem x_ixL {p : Addr} {xs : List V} {k : Int} (h : SqL K H p xs) (ha : atI xs k = some v) (q : Q v H) : rIxL K (.ref p) (.int k) H Q := ⟨p, xs, k, v, rfl, rfl, h, ha, q⟩
theorem x_ixT {p : Addr} {xs : List V} {k : Int} (h : SqT K H p xs) (ha : atI xs k = some v) (q : Q v H) : rIxT K (.ref p) (.int k) H Q := ⟨p, xs, k, v, rfl, rfl, h, ha, q⟩
theorem x_ixS {z : Str} {k : Int} {d : Nat} (h : z.length ≤ sizeLine) (ha : atI z.cps.toList k = some d) (q : Q (.str ⟨#[d]⟩) H) : rIxS (.str z) (.int k) H Q := ⟨z, k, d, rfl, rfl, h, ha, q⟩
theorem x_bm {T : String} {o : V → List V → Hp → VK → Prop} (q : ta σ H fun x H1 => tyV K T x H1 ∧ al σ H1 fun xs H2 => o x xs H2 Q) : tBM K T o ta al σ H Q := q
theorem x_bm0 {T : String} {o : V → List V → Hp → VK → Prop} (q : ta σ H fun x H1 => tyV K T x H1 ∧ o x [] H1 Q) : tBM0 K T o ta σ H Q := q
theorem x_tyL {p : Addr} {xs : List V} {A : Prop} (h : SqL K H p xs) (q : A) : tyV K "list" (.ref p) H ∧ A := ⟨.inl ⟨rfl, xs, h⟩, q⟩
theorem x_app {l : Addr} {xs : List V} (h : H l = some (.lst xs)) (hl : xs.length < sizeLine) (q : Q .non (upd H l (.lst (xs ++ [y])))) : rAppend (.ref l) [y] H Q := ⟨l, xs, y, rfl, rfl, h, hl, q⟩
theorem x_popAt {l : Addr} {xs : List V} {j : Nat} {k : Int} (h : H l = some (.lst xs)) (hk : k = (j : Int)) (hj : xs[j]? = some y) (hs : xs.length ≤ 10000) (q : Q y (upd H l (.lst (xs.eraseIdx j)))) : rPopAt (.ref l) [.int k] H Q := by
  have hlt : j < xs.length := (List.getElem?_eq_some_iff.mp hj).1
  subst hk
  refine ⟨l, xs, _, j, y, rfl, rfl, h, by omega, by omega, ?_, hj, q⟩
  unfold seqIndex?
  first
    | (rw [if_neg (by omega), if_pos (by omega)]; simp)
    | (simp; omega)
    | (simp [hlt])
end
/-! ### loops, each by a word over turn, slots and heap -/
section
variable {σ : L2.St} {H : Hp} {te : TE} {n : L2.St → Hp → Prop} {r : VK} {b c : L2.St → Hp → Prop} {tb : TS} {g : TG} {K : PySem.W.Frag} {al : TA} {p : Addr}
/-- the loop over what J tells -/
def Lp (J : It) (g : TG) (tb : TS) (D : Ends) (σ : L2.St) (H : Hp) : Prop := ∃ W : Nat → Nat → L2.St → Hp → Prop, (∃ m, W 0 m σ H) ∧ ∀ i m σ H, W i m σ H →
  (J.stop i H ∧ D.nx σ H) ∨ (J.go i H ∧ ∃ N : L2.St → Hp → Prop, (∀ σ' H', N σ' H' → ∃ m', m' < m ∧ W (i + 1) m' σ' H') ∧ ∀ x H', J.yld i H x H' → g x σ H' fun σ2 H2 => tb { D with nx := N, ct := N, bk := D.nx } σ2 H2)
def LpL (K : PySem.W.Frag) (g : TG) (tb : TS) (D : Ends) (σ : L2.St) (x : V) (H : Hp) : Prop := ∃ a, x = .ref a ∧ (∃ xs, SqL K H a xs) ∧ Lp (Itl K a) g tb D σ H
def LpT (K : PySem.W.Frag) (g : TG) (tb : TS) (D : Ends) (σ : L2.St) (x : V) (H : Hp) : Prop := ∃ a, x = .ref a ∧ (∃ xs, SqT K H a xs) ∧ Lp (Itt K a) g tb D σ H
def LpR (g : TG) (tb : TS) (D : Ends) (σ : L2.St) (vs : List V) (H : Hp) : Prop := ∃ j : Int, vs = [.int j] ∧ -(2 ^ 62) ≤ j ∧ j < 2 ^ 62 ∧ Lp (Itr 0 j.toNat) g tb D σ H
def LpR2 (g : TG) (tb : TS) (D : Ends) (σ : L2.St) (vs : List V) (H : Hp) : Prop := ∃ i j : Int, vs = [.int i, .int j] ∧ (-(2 ^ 62) ≤ i ∧ i < 2 ^ 62 ∧ -(2 ^ 62) ≤ j ∧ j < 2 ^ 62) ∧ Lp (Itr i (j - i).toNat) g tb D σ H
def LpS (g : TG) (tb : TS) (D : Ends) (σ : L2.St) (x : V) (H : Hp) : Prop := ∃ z, x = .str z ∧ Lp (Its z) g tb D σ H
def LpK (g : TG) (tb : TS) (D : Ends) (σ : L2.St) (x : V) (H : Hp) : Prop := ∃ d o, x = .ref d ∧ ((∃ kvs, H d = some (.frz o (.dK kvs)) ∧ Lp (Itk d o kvs) g tb D σ H) ∨ ∃ kvs, H d = some (.frz o (.dT kvs)) ∧ Lp (Itkt d o kvs) g tb D σ H)
def LpI (g : TG) (tb : TS) (D : Ends) (σ : L2.St) (x : V) (H : Hp) : Prop := ∃ d o kvs, x = .ref d ∧ H d = some (.frz o (.dK kvs)) ∧ Lp (Iti d o kvs) g tb D σ H
def LpV (g : TG) (tb : TS) (D : Ends) (σ : L2.St) (x : V) (H : Hp) : Prop := ∃ d o kvs, x = .ref d ∧ H d = some (.frz o (.dK kvs)) ∧ Lp (Itd d o kvs) g tb D σ H
theorem x_forL (h : te σ H fun x H1 => LpL K g tb ⟨n, r, b, c⟩ σ x H1) : tFor (iList K te) g tb ⟨n, r, b, c⟩ σ H := h
theorem x_forT (h : te σ H fun x H1 => LpT K g tb ⟨n, r, b, c⟩ σ x H1) : tFor (iTup K te) g tb ⟨n, r, b, c⟩ σ H := h
theorem x_forR (h : al σ H fun x H1 => LpR g tb ⟨n, r, b, c⟩ σ x H1) : tFor (iRng1 al) g tb ⟨n, r, b, c⟩ σ H := h
theorem x_forR2 (h : al σ H fun x H1 => LpR2 g tb ⟨n, r, b, c⟩ σ x H1) : tFor (iRng2 al) g tb ⟨n, r, b, c⟩ σ H := h
theorem x_forS (h : te σ H fun x H1 => LpS g tb ⟨n, r, b, c⟩ σ x H1) : tFor (iStr te) g tb ⟨n, r, b, c⟩ σ H := h
theorem x_forK (h : te σ H fun x H1 => LpK g tb ⟨n, r, b, c⟩ σ x H1) : tFor (iKeys te) g tb ⟨n, r, b, c⟩ σ H := h
theorem x_forI (h : te σ H fun x H1 => LpI g tb ⟨n, r, b, c⟩ σ x H1) : tFor (iItems te) g tb ⟨n, r, b, c⟩ σ H := h
theorem x_forV (h : te σ H fun x H1 => LpV g tb ⟨n, r, b, c⟩ σ x H1) : tFor (iVals te) g tb ⟨n, r, b, c⟩ σ H := h
/-- a name of the loop: the turn stores it -/
theorem lp_by {J : It} {m : Nat} {G : Hp → Prop} {Y : Nat → Hp → V → Hp → Prop} (w : L2.Walk J m G Y) (Pv : Nat → L2.St → Hp → Prop) (h0 : Pv 0 σ H) (hG : ∀ i σ H, i ≤ m → Pv i σ H → G H)
    (hs : ∀ i x σ H H', i < m → Pv i σ H → Y i H x H' → g x σ H' fun σ2 H2 => tb ⟨Pv (i + 1), r, n, Pv (i + 1)⟩ σ2 H2) (hd : ∀ σ H, Pv m σ H → n σ H) : Lp J g tb ⟨n, r, b, c⟩ σ H := L2.for_it w Pv h0 hG hs hd
theorem lpL {xs : List V} (Pv : Nat → L2.St → Hp → Prop) (h : SqL K H p xs) (h0 : Pv 0 σ H) (hG : ∀ i σ H, i ≤ xs.length → Pv i σ H → SqL K H p xs)
    (hs : ∀ i x σ H, xs[i]? = some x → Pv i σ H → g x σ H fun σ2 H2 => tb ⟨Pv (i + 1), r, n, Pv (i + 1)⟩ σ2 H2) (hd : ∀ σ H, Pv xs.length σ H → n σ H) : LpL K g tb ⟨n, r, b, c⟩ σ (.ref p) H :=
  ⟨p, rfl, ⟨xs, h⟩, lp_by walk_list Pv h0 hG (fun i x σ H H' _ hp y => by obtain ⟨rfl, e⟩ := y; exact hs i x σ _ e hp) hd⟩
theorem lpT {xs : List V} (Pv : Nat → L2.St → Hp → Prop) (h : SqT K H p xs) (h0 : Pv 0 σ H) (hG : ∀ i σ H, i ≤ xs.length → Pv i σ H → SqT K H p xs)
    (hs : ∀ i x σ H, xs[i]? = some x → Pv i σ H → g x σ H fun σ2 H2 => tb ⟨Pv (i + 1), r, n, Pv (i + 1)⟩ σ2 H2) (hd : ∀ σ H, Pv xs.length σ H → n σ H) : LpT K g tb ⟨n, r, b, c⟩ σ (.ref p) H :=
  ⟨p, rfl, ⟨xs, h⟩, lp_by walk_tup Pv h0 hG (fun i x σ H H' _ hp y => by obtain ⟨rfl, e⟩ := y; exact hs i x σ _ e hp) hd⟩
theorem lpR {j : Int} (Pv : Nat → L2.St → Hp → Prop) (hj : -(2 ^ 62) ≤ j ∧ j < 2 ^ 62) (h0 : Pv 0 σ H)
    (hs : ∀ i σ H, i < j.toNat → Pv i σ H → g (.int (i : Int)) σ H fun σ2 H2 => tb ⟨Pv (i + 1), r, n, Pv (i + 1)⟩ σ2 H2) (hd : ∀ σ H, Pv j.toNat σ H → n σ H) : LpR g tb ⟨n, r, b, c⟩ σ [.int j] H :=
  ⟨j, rfl, hj.1, hj.2, lp_by walk_range Pv h0 (fun _ _ _ _ _ => trivial) (fun i x σ H H' hi hp y => by
    obtain ⟨rfl, rfl⟩ := y
    dsimp only
    rw [Int.zero_add]
    exact hs i σ _ hi hp) hd⟩
theorem lpR2 {i0 j : Int} (Pv : Nat → L2.St → Hp → Prop) (hj : (-(2 ^ 62) ≤ i0 ∧ i0 < 2 ^ 62 ∧ -(2 ^ 62) ≤ j ∧ j < 2 ^ 62)) (h0 : Pv 0 σ H)
    (hs : ∀ i σ H, i < (j - i0).toNat → Pv i σ H → g (.int (i0 + (i : Int))) σ H fun σ2 H2 => tb ⟨Pv (i + 1), r, n, Pv (i + 1)⟩ σ2 H2) (hd : ∀ σ H, Pv (j - i0).toNat σ H → n σ H) : LpR2 g tb ⟨n, r, b, c⟩ σ [.int i0, .int j] H :=
  ⟨i0, j, rfl, hj, lp_by walk_range Pv h0 (fun _ _ _ _ _ => trivial) (fun i x σ H H' hi hp y => by
    obtain ⟨rfl, rfl⟩ := y
    exact hs i σ _ hi hp) hd⟩
theorem lpS {z : Str} (Pv : Nat → L2.St → Hp → Prop) (h0 : Pv 0 σ H)
    (hs : ∀ i d σ H, z.cps[i]? = some d → Pv i σ H → g (.str ⟨#[d]⟩) σ H fun σ2 H2 => tb ⟨Pv (i + 1), r, n, Pv (i + 1)⟩ σ2 H2) (hd : ∀ σ H, Pv z.cps.size σ H → n σ H) : LpS g tb ⟨n, r, b, c⟩ σ (.str z) H :=
  ⟨z, rfl, lp_by walk_str Pv h0 (fun _ _ _ _ _ => trivial) (fun i x σ H H' hi hp y => by
    obtain ⟨rfl, d, e, rfl⟩ := y
    exact hs i d σ _ e hp) hd⟩
theorem lpK {o : Obj} {kvs : List (Key × V)} (Pv : Nat → L2.St → Hp → Prop) (h : H p = some (.frz o (.dK kvs))) (h0 : Pv 0 σ H) (hG : ∀ i σ H, i ≤ kvs.length → Pv i σ H → H p = some (.frz o (.dK kvs)))
    (hs : ∀ i k v σ H, kvs[i]? = some (k, v) → Pv i σ H → g (kV k) σ H fun σ2 H2 => tb ⟨Pv (i + 1), r, n, Pv (i + 1)⟩ σ2 H2) (hd : ∀ σ H, Pv kvs.length σ H → n σ H) : LpK g tb ⟨n, r, b, c⟩ σ (.ref p) H :=
  ⟨p, o, rfl, .inl ⟨kvs, h, lp_by walk_keys Pv h0 hG (fun i x σ H H' _ hp y => by
    obtain ⟨rfl, k, v, e, rfl⟩ := y
    exact hs i k v σ _ e hp) hd⟩⟩
theorem lpV {o : Obj} {kvs : List (Key × V)} (Pv : Nat → L2.St → Hp → Prop) (h : H p = some (.frz o (.dK kvs))) (h0 : Pv 0 σ H) (hG : ∀ i σ H, i ≤ kvs.length → Pv i σ H → H p = some (.frz o (.dK kvs)))
    (hs : ∀ i k v σ H, kvs[i]? = some (k, v) → Pv i σ H → g v σ H fun σ2 H2 => tb ⟨Pv (i + 1), r, n, Pv (i + 1)⟩ σ2 H2) (hd : ∀ σ H, Pv kvs.length σ H → n σ H) : LpV g tb ⟨n, r, b, c⟩ σ (.ref p) H :=
  ⟨p, o, kvs, rfl, h, lp_by walk_values Pv h0 hG (fun i x σ H H' _ hp y => by
    obtain ⟨rfl, k, e⟩ := y
    exact hs i k x σ _ e hp) hd⟩
/-- the pairs, a new tuple each -/
theorem lpI {o : Obj} {kvs : List (Key × V)} (Pv : Nat → L2.St → Hp → Prop) (h : H p = some (.frz o (.dK kvs))) (h0 : Pv 0 σ H) (hG : ∀ i σ H, i ≤ kvs.length → Pv i σ H → H p = some (.frz o (.dK kvs)))
    (hs : ∀ i k v σ H T, kvs[i]? = some (k, v) → Pv i σ H → H T = none → g (.ref T) σ (upd H T (.tup [kV k, v])) fun σ2 H2 => tb ⟨Pv (i + 1), r, n, Pv (i + 1)⟩ σ2 H2) (hd : ∀ σ H, Pv kvs.length σ H → n σ H) : LpI g tb ⟨n, r, b, c⟩ σ (.ref p) H :=
  ⟨p, o, kvs, rfl, h, lp_by walk_items Pv h0 hG (fun i x σ H H' hi hp y => by
    obtain ⟨T, k, v, rfl, hT, rfl, e1, e2⟩ := y
    dsimp only at e1 e2
    cases e : kvs[i]? with
    | none => rw [e] at e1; cases e1
    | some kv =>
      rw [e] at e1 e2
      have e3 : kV kv.1 = k := Option.some.inj e1
      have e4 : kv.2 = v := Option.some.inj e2
      subst e3 e4
      exact hs i kv.1 kv.2 σ _ T e hp hT) hd⟩
theorem x_g1 {v : V} {i : Nat} {N : L2.St → Hp → Prop} (h : N (σ.set i (some v)) H) : gName i v σ H N := h
theorem x_g2 {T : Addr} {v w : V} {i j : Nat} {N : L2.St → Hp → Prop} (ht : SqT K H T [v, w]) (h : N ((σ.set i (some v)).set j (some w)) H) : gTup K 2 (gCons (gName i) (gCons (gName j) gNil)) (.ref T) σ H N :=
  ⟨T, [v, w], rfl, ht, rfl, v, [w], rfl, w, [], rfl, rfl, h⟩
end
/-! ### heaps: all but one kept -/
def But (p : Addr) (H H' : Hp) : Prop := ∀ b o, H b = some o → b ≠ p → H' b = some o
theorem But.refl {p : Addr} {H : Hp} : But p H H := fun _ _ h _ => h
theorem But.trans {p : Addr} {H H1 H2 : Hp} (a : But p H H1) (b : But p H1 H2) : But p H H2 := fun q o h e => b q o (a q o h e) e
theorem But.at_ {p : Addr} {H H' : Hp} {o : HO} (a : But p H H') : But p H (upd H' p o) := fun q u h e => by rw [upd_ne e]; exact a q u h e
theorem But.new {p q : Addr} {H H' : Hp} {o : HO} (a : But p H H') (h : H' q = none) : But p H (upd H' q o) := fun b u hb e => by
  have h1 := a b u hb e
  rw [upd_ne (ne_of_none h1 h)]
  exact h1
theorem But.of_same {p : Addr} {H H' : Hp} (a : L2.Same H H') : But p H H' := fun b o h _ => a b o h
theorem But.lst {K : PySem.W.Frag} {p q : Addr} {xs : List V} {H H' : Hp} (a : But p H H') (e : q ≠ p) (h : SqL K H q xs) : SqL K H' q xs := by
  rcases h with (h | ⟨o, h⟩) | h
  · exact .inl (.inl (a _ _ h e))
  · exact .inl (.inr ⟨o, a _ _ h e⟩)
  · exact .inr h
theorem ne_old {H : Hp} {a b : Addr} {o : HO} (h' : H b = none) (h : H a = some o) : a ≠ b := ne_of_none h h'
theorem ne_two {H : Hp} {a b : Addr} {o u : HO} (h : H a = some o) (h' : H b = some u) (d : o ≠ u) : a ≠ b := ne_of h h' d
/-! ### named readings of rules (so that a step can be told by its head) -/
def rLenA (K : PySem.W.Frag) : List V → Hp → VK → Prop := fun xs H Q => ∃ x n, xs = [x] ∧ LenV K x H n ∧ Q (.int n) H
def rLenDA : List V → Hp → VK → Prop := fun xs H Q => ∃ a kvs, xs = [V.ref a] ∧ Rd H a (.dK kvs) ∧ Q (.int kvs.length) H
def rIntA : List V → Hp → VK → Prop := fun xs H Q => (∃ i, xs = [.int i] ∧ Q (.int i) H) ∨ ∃ k, xs = [.bl k] ∧ Q (.int (if k then 1 else 0)) H
def rStrIA : List V → Hp → VK → Prop := fun xs H Q => ∃ i, xs = [.int i] ∧ i.natAbs.log2 < 1920 ∧ Q (.str (toString i)) H
def rAbsA : List V → Hp → VK → Prop := fun xs H Q => ∃ i, xs = [.int i] ∧ Q (.int (if i < 0 then -i else i)) H
def rMax2A : List V → Hp → VK → Prop := fun xs H Q => ∃ i j, xs = [.int i, .int j] ∧ Q (.int (if j > i then j else i)) H
def rMin2A : List V → Hp → VK → Prop := fun xs H Q => ∃ i j, xs = [.int i, .int j] ∧ Q (.int (if j < i then j else i)) H
def rListA (K : PySem.W.Frag) : List V → Hp → VK → Prop := fun xs H Q => ∃ p ys, xs = [.ref p] ∧ (SqL K H p ys ∨ SqT K H p ys) ∧ ∀ l, H l = none → Q (.ref l) (upd H l (.lst ys))
def rTupleA (K : PySem.W.Frag) : List V → Hp → VK → Prop := fun xs H Q => ∃ p ys, xs = [.ref p] ∧ ((SqL K H p ys ∧ ∀ l, H l = none → Q (.ref l) (upd H l (.tup ys))) ∨ (SqT K H p ys ∧ Q (.ref p) H))
def rDictA : List V → Hp → VK → Prop := fun xs H Q => ∃ (a : Addr) (kvs : List (Key × V)), xs = [.ref a] ∧ Rd H a (.dK kvs) ∧ ∀ p, H p = none → Q (.ref p) (upd H p (.dK kvs))
def rStr2 (g : Str → Str → Bool) : R2 := fun x y H Q => ∃ i j, x = .str i ∧ y = .str j ∧ Q (.bl (g i j)) H
def rAddSA : R2 := fun x y H Q => ∃ i j, x = .str i ∧ y = .str j ∧ i.length + j.length ≤ sizeLine ∧ Q (.str (i ++ j)) H
def rInSA : R2 := fun x y H Q => ∃ (c : Nat) (z : Str), x = .str ⟨#[c]⟩ ∧ y = .str z ∧ Q (.bl (decide (c ∈ z.cps.toList))) H
def rNinSA : R2 := fun x y H Q => ∃ (c : Nat) (z : Str), x = .str ⟨#[c]⟩ ∧ y = .str z ∧ Q (.bl (!decide (c ∈ z.cps.toList))) H
def rIsNA : R2 := fun x y H Q => y = .non ∧ Q (.bl (decide (x = .non))) H
def rNotNA : R2 := fun x y H Q => y = .non ∧ Q (.bl (!decide (x = .non))) H
section
variable {X : Cx}
theorem call_lenA : CallR X (.builtin "len") (rLenA X.K) := call_len
theorem call_lenDA : CallR X (.builtin "len") rLenDA := by
  intro pins s σ H xs us Q I r h
  obtain ⟨a, kvs, rfl, ha, q⟩ := h
  obtain ⟨u, rfl, ru⟩ := vals1 r
  cases ru
  exact d_len I ha fun t s' I' => ⟨.int kvs.length, H, I', ⟨t, rfl⟩, q⟩
theorem call_intA : CallR X (.type "int") rIntA := call_int1
theorem call_strIA : CallR X (.type "str") rStrIA := call_str_int
theorem call_absA : CallR X (.builtin "abs") rAbsA := call_abs
theorem call_max2A (hc : X.calm = true) : CallR X (.builtin "max") rMax2A := call_max2 hc
theorem call_min2A (hc : X.calm = true) : CallR X (.builtin "min") rMin2A := call_min2 hc
theorem call_listA : CallR X (.type "list") (rListA X.K) := call_list_of
theorem call_tupleA : CallR X (.type "tuple") (rTupleA X.K) := call_tuple_of
theorem call_dictA : CallR X (.type "dict") rDictA := call_dictD
theorem op_ltS : OpR X (compareOp .Lt) (rStr2 fun i j => decide (i.cps.toList < j.cps.toList)) := op_lt_str
theorem op_leS : OpR X (compareOp .LtE) (rStr2 fun i j => !decide (j.cps.toList < i.cps.toList)) := op_le_str
theorem op_gtS : OpR X (compareOp .Gt) (rStr2 fun i j => decide (j.cps.toList < i.cps.toList)) := op_gt_str
theorem op_geS : OpR X (compareOp .GtE) (rStr2 fun i j => !decide (i.cps.toList < j.cps.toList)) := op_ge_str
theorem op_addSA : OpR X (binaryOp .Add) rAddSA := op_add_str
theorem op_inSA : OpR X (compareOp .In) rInSA := op_in_sign
theorem op_ninSA : OpR X (compareOp .NotIn) rNinSA := op_notIn_sign
theorem op_isNA : OpR X (compareOp .Is) rIsNA := op_isN
theorem op_notNA : OpR X (compareOp .IsNot) rNotNA := op_notN
end
section
variable {σ : L2.St} {H : Hp} {Q : VK} {v x y : V} {ta : TE} {K : PySem.W.Frag}
theorem x_lenL {p : Addr} {xs : List V} (h : SqL K H p xs) (q : Q (.int xs.length) H) : rLenA K [V.ref p] H Q := ⟨_, _, rfl, .inl ⟨xs, h, rfl⟩, q⟩
theorem x_lenT {p : Addr} {xs : List V} (h : SqT K H p xs) (q : Q (.int xs.length) H) : rLenA K [V.ref p] H Q := ⟨_, _, rfl, .inr ⟨xs, h, rfl⟩, q⟩
theorem x_lenS {z : Str} (h : z.length ≤ sizeLine) (q : Q (.int z.length) H) : rLenA K [V.str z] H Q := ⟨_, _, rfl, ⟨h, rfl⟩, q⟩
theorem x_lenD {p : Addr} {kvs : List (Key × V)} (h : Rd H p (.dK kvs)) (q : Q (.int kvs.length) H) : rLenDA [V.ref p] H Q := ⟨p, kvs, rfl, h, q⟩
theorem x_intI {i : Int} (q : Q (.int i) H) : rIntA [V.int i] H Q := .inl ⟨i, rfl, q⟩
theorem x_strI {i : Int} (h : i.natAbs.log2 < 1920) (q : Q (.str (toString i)) H) : rStrIA [V.int i] H Q := ⟨i, rfl, h, q⟩
theorem x_abs {i : Int} (q : Q (.int (if i < 0 then -i else i)) H) : rAbsA [V.int i] H Q := ⟨i, rfl, q⟩
theorem x_max2 {i j : Int} (q : Q (.int (if j > i then j else i)) H) : rMax2A [V.int i, V.int j] H Q := ⟨i, j, rfl, q⟩
theorem x_min2 {i j : Int} (q : Q (.int (if j < i then j else i)) H) : rMin2A [V.int i, V.int j] H Q := ⟨i, j, rfl, q⟩
theorem x_str2 {g : Str → Str → Bool} {i j : Str} (q : Q (.bl (g i j)) H) : rStr2 g (.str i) (.str j) H Q := ⟨i, j, rfl, rfl, q⟩
theorem x_addS {i j : Str} (h : i.length + j.length ≤ sizeLine) (q : Q (.str (i ++ j)) H) : rAddSA (.str i) (.str j) H Q := ⟨i, j, rfl, rfl, h, q⟩
theorem x_inS {d : Nat} {z : Str} (q : Q (.bl (decide (d ∈ z.cps.toList))) H) : rInSA (.str ⟨#[d]⟩) (.str z) H Q := ⟨d, z, rfl, rfl, q⟩
theorem x_ninS {d : Nat} {z : Str} (q : Q (.bl (!decide (d ∈ z.cps.toList))) H) : rNinSA (.str ⟨#[d]⟩) (.str z) H Q := ⟨d, z, rfl, rfl, q⟩
theorem x_isN (q : Q (.bl (decide (x = .non))) H) : rIsNA x .non H Q := ⟨rfl, q⟩
theorem x_notN (q : Q (.bl (!decide (x = .non))) H) : rNotNA x .non H Q := ⟨rfl, q⟩
theorem x_listL {p : Addr} {xs : List V} (h : SqL K H p xs) (q : ∀ l, H l = none → Q (.ref l) (upd H l (.lst xs))) : rListA K [V.ref p] H Q := ⟨p, xs, rfl, .inl h, q⟩
theorem x_listT {p : Addr} {xs : List V} (h : SqT K H p xs) (q : ∀ l, H l = none → Q (.ref l) (upd H l (.lst xs))) : rListA K [V.ref p] H Q := ⟨p, xs, rfl, .inr h, q⟩
theorem x_tupL {p : Addr} {xs : List V} (h : SqL K H p xs) (q : ∀ l, H l = none → Q (.ref l) (upd H l (.tup xs))) : rTupleA K [V.ref p] H Q := ⟨p, xs, rfl, .inl ⟨h, q⟩⟩
theorem x_tupT {p : Addr} {xs : List V} (h : SqT K H p xs) (q : Q (.ref p) H) : rTupleA K [V.ref p] H Q := ⟨p, xs, rfl, .inr ⟨h, q⟩⟩
theorem x_dict {p : Addr} {kvs : List (Key × V)} (h : Rd H p (.dK kvs)) (q : ∀ l, H l = none → Q (.ref l) (upd H l (.dK kvs))) : rDictA [V.ref p] H Q := ⟨p, kvs, rfl, h, q⟩
def rFldA (K : PySem.W.Frag) (f : Str) (x : V) (H : Hp) (Q : VK) : Prop := ∃ a C dx fs v, x = .ref a ∧ H a = some (.ins C dx fs) ∧ Cls K C ∧ NoAttr K C f ∧ fs.lookup f = some v ∧ Q v H
theorem x_Fld {f : Str} (q : ta σ H fun x H1 => rFldA K f x H1 Q) : tFld K ta f σ H Q := q
theorem x_fld {a C dx : Addr} {fs : List (Str × V)} {f : Str} (hc : Cls K C) (hn : NoAttr K C f) (h : H a = some (.ins C dx fs)) (hl : fs.lookup f = some v) (q : Q v H) : rFldA K f (.ref a) H Q := ⟨a, C, dx, fs, v, rfl, h, hc, hn, hl, q⟩
end
end Ox
namespace Ox
open PySem PySem.Spec PyProof.Rows L2
theorem divok2 {i j : Int} (h : 0 < j) (h2 : j < 2 ^ 200) : CDivW i j := wide_div (b := 200) h (by omega) (by decide) (by decide)
end Ox
namespace Ox
open PySem PySem.Spec PyProof.Rows L2
section
variable {H : Hp} {Q : VK} {v : V} {K : PySem.W.Frag}
theorem x_ixl {p : Addr} {xs : List V} {k : Int} (j : Nat) (h : SqL K H p xs) (hk : k = (j : Int)) (ha : xs[j]? = some v) (q : Q v H) : rIxL K (.ref p) (.int k) H Q := x_ixL h (at_of hk ha) q
theorem x_ixt {p : Addr} {xs : List V} {k : Int} (j : Nat) (h : SqT K H p xs) (hk : k = (j : Int)) (ha : xs[j]? = some v) (q : Q v H) : rIxT K (.ref p) (.int k) H Q := x_ixT h (at_of hk ha) q
theorem x_ixs {z : Str} {k : Int} {d : Nat} (j : Nat) (h : z.length ≤ sizeLine) (hk : k = (j : Int)) (ha : z.cps.toList[j]? = some d) (q : Q (.str ⟨#[d]⟩) H) : rIxS (.str z) (.int k) H Q :=
  x_ixS h (by subst hk; exact atI_nat ha) q
end
end Ox
namespace Ox
open PySem PySem.Spec PyProof.Rows L2
theorem same_new {H : Hp} {p : Addr} {o : HO} (h : H p = none) : L2.Same H (upd H p o) := fun b u e => by rw [upd_ne (ne_of_none e h)]; exact e
/-- what H does not hold may change -/
theorem same_upd {H H' : Hp} {p : Addr} {o : HO} (s : L2.Same H H') (h : H p = none) : L2.Same H (upd H' p o) := fun b u e => by rw [upd_ne (ne_of_none e h)]; exact s b u e
theorem same_but {p : Addr} {H H1 H2 : Hp} (s : L2.Same H H1) (h : H p = none) (b : But p H1 H2) : L2.Same H H2 := fun q u e => b q u (s q u e) (ne_of_none e h)
theorem same_t {K : PySem.W.Frag} {H H' : Hp} {a : Addr} {xs : List V} (e : L2.Same H H') (h : SqT K H a xs) : SqT K H' a xs := by
  rcases h with (h | ⟨o, h⟩) | h
  · exact .inl (.inl (e _ _ h))
  · exact .inl (.inr ⟨o, e _ _ h⟩)
  · exact .inr h
theorem same_rd {H H' : Hp} {a : Addr} {u : HO} (e : L2.Same H H') (h : Rd H a u) : Rd H' a u := by
  rcases h with h | ⟨o, h⟩
  · exact .inl (e _ _ h)
  · exact .inr ⟨o, e _ _ h⟩
theorem but_rd {p : Addr} {H H' : Hp} {a : Addr} {u : HO} (e : But p H H') (n : a ≠ p) (h : Rd H a u) : Rd H' a u := by
  rcases h with h | ⟨o, h⟩
  · exact .inl (e _ _ h n)
  · exact .inr ⟨o, e _ _ h n⟩
theorem sz_le {n : Nat} (h : n ≤ 10000) : n ≤ sizeLine := Nat.le_trans h (by decide)
theorem sz_lt {n : Nat} (h : n < 10000) : n < sizeLine := Nat.lt_of_lt_of_le h (by decide)
end Ox
namespace Ox
open PySem PySem.Spec PyProof.Rows L2
theorem inV_strs (z : Str) (ws : List Str) : inV (.str z) (ws.map V.str) = decide (z ∈ ws) := by
  unfold inV
  induction ws with
  | nil => simp
  | cons a r ih =>
    rw [List.map_cons, List.any_cons, ih]
    show (a == z || decide (z ∈ r)) = decide (z ∈ a :: r)
    by_cases e : a = z
    · subst e
      simp
    · have e2 : (a == z) = false := by simpa using e
      have e3 : ¬ z = a := fun q => e q.symm
      rw [e2]
      simp [List.mem_cons, e3]
theorem flat_strs (ws : List Str) : (ws.map V.str).all flatV = true := by
  rw [List.all_map]
  exact List.all_eq_true.mpr fun _ _ => rfl
theorem inV_ints (z : Int) (ws : List Int) : inV (.int z) (ws.map V.int) = decide (z ∈ ws) := by
  unfold inV
  induction ws with
  | nil => simp
  | cons a r ih =>
    rw [List.map_cons, List.any_cons, ih]
    show (a == z || decide (z ∈ r)) = decide (z ∈ a :: r)
    by_cases e : a = z
    · subst e
      simp
    · have e2 : (a == z) = false := by simpa using e
      have e3 : ¬ z = a := fun q => e q.symm
      rw [e2]
      simp [List.mem_cons, e3]
theorem flat_ints (ws : List Int) : (ws.map V.int).all flatV = true := by
  rw [List.all_map]
  exact List.all_eq_true.mpr fun _ _ => rfl
section
variable {H : Hp} {Q : VK} {K : PySem.W.Frag} {p : Addr}
theorem x_inL {ws : List Str} {z : Str} (h : SqL K H p (ws.map V.str)) (q : Q (.bl (decide (z ∈ ws))) H) : rIn K false (.str z) (.ref p) H Q :=
  ⟨p, _, rfl, .inl h, rfl, flat_strs ws, by rw [inV_strs]; exact q⟩
theorem x_ninL {ws : List Str} {z : Str} (h : SqL K H p (ws.map V.str)) (q : Q (.bl (!decide (z ∈ ws))) H) : rIn K true (.str z) (.ref p) H Q :=
  ⟨p, _, rfl, .inl h, rfl, flat_strs ws, by rw [inV_strs]; exact q⟩
theorem x_inTs {ws : List Str} {z : Str} (h : SqT K H p (ws.map V.str)) (q : Q (.bl (decide (z ∈ ws))) H) : rIn K false (.str z) (.ref p) H Q :=
  ⟨p, _, rfl, .inr h, rfl, flat_strs ws, by rw [inV_strs]; exact q⟩
theorem x_inTi {ws : List Int} {z : Int} (h : SqT K H p (ws.map V.int)) (q : Q (.bl (decide (z ∈ ws))) H) : rIn K false (.int z) (.ref p) H Q :=
  ⟨p, _, rfl, .inr h, rfl, flat_ints ws, by rw [inV_ints]; exact q⟩
theorem x_ninTi {ws : List Int} {z : Int} (h : SqT K H p (ws.map V.int)) (q : Q (.bl (!decide (z ∈ ws))) H) : rIn K true (.int z) (.ref p) H Q :=
  ⟨p, _, rfl, .inr h, rfl, flat_ints ws, by rw [inV_ints]; exact q⟩
end
end Ox
namespace Ox
open PySem PySem.Spec PyProof.Rows L2
/-! ### comprehensions -/
section
variable {σ : L2.St} {H : Hp} {Q : VK} {te tk tv : TE} {n : L2.St → Hp → Prop} {r : VK} {b c : L2.St → Hp → Prop} {t : TS} {g : TG} {tt : TT} {K : PySem.W.Frag} {al : TA} {p D : Addr} {vs : List Nat} {wi : TI} {Qd : Hp → Prop}
def LcP (J : It) (g : TG) (tt : TT) (te : TE) (vs : List Nat) (σ : L2.St) (D : Addr) (Qd : Hp → Prop) (H1 : Hp) : Prop := ∃ W : Nat → Nat → Hp → Prop, (∃ m, W 0 m (upd H1 D (.lst []))) ∧ ∀ i m H, W i m H →
  (J.stop i H ∧ Qd H) ∨ (J.go i H ∧ ∃ Nx : Hp → Prop, (∀ H', Nx H' → ∃ m', m' < m ∧ W (i + 1) m' H') ∧ ∀ x H', J.yld i H x H' → g x (wipe σ vs) H' fun σ2 H2 => wipe σ2 vs = wipe σ vs ∧ tt σ2 H2 fun b H3 =>
    if b = true then te σ2 H3 fun y H4 => ∃ acc, H4 D = some (.lst acc) ∧ acc.length < sizeLine ∧ Nx (upd H4 D (.lst (acc ++ [y]))) else Nx H3)
def DcP (J : It) (g : TG) (tt : TT) (tk tv : TE) (vs : List Nat) (σ : L2.St) (D : Addr) (Qd : Hp → Prop) (H1 : Hp) : Prop := ∃ W : Nat → Nat → Hp → Prop, (∃ m, W 0 m (upd H1 D (.dK []))) ∧ ∀ i m H, W i m H →
  (J.stop i H ∧ Qd H) ∨ (J.go i H ∧ ∃ Nx : Hp → Prop, (∀ H', Nx H' → ∃ m', m' < m ∧ W (i + 1) m' H') ∧ ∀ x H', J.yld i H x H' → g x (wipe σ vs) H' fun σ2 H2 => wipe σ2 vs = wipe σ vs ∧ tt σ2 H2 fun b H3 =>
    if b = true then tk σ2 H3 fun y H4 => tv σ2 H4 fun z H5 => ∃ kvs k, y = kV k ∧ H5 D = some (.dK kvs) ∧ kvs.length < sizeLine ∧ Nx (upd H5 D (.dK (putK kvs k z))) else Nx H3)
theorem x_lc (h : wi σ H fun J H1 => ∀ D, H1 D = none → LcP J g tt te vs σ D (fun H2 => Q (.ref D) H2) H1) : tLc wi g tt te vs σ H Q := h
theorem x_dc (h : wi σ H fun J H1 => ∀ D, H1 D = none → DcP J g tt tk tv vs σ D (fun H2 => Q (.ref D) H2) H1) : tDc wi g tt tk tv vs σ H Q := h
theorem x_yes1 {R : Bool → Hp → Prop} (h : R true H) : tYes σ H R := h
def RunK (R : It → Hp → Prop) (x : V) (H : Hp) : Prop := ∃ d o, x = .ref d ∧ ((∃ kvs, H d = some (.frz o (.dK kvs)) ∧ R (Itk d o kvs) H) ∨ ∃ kvs, H d = some (.frz o (.dT kvs)) ∧ R (Itkt d o kvs) H)
def RunV (R : It → Hp → Prop) (x : V) (H : Hp) : Prop := ∃ d o kvs, x = .ref d ∧ H d = some (.frz o (.dK kvs)) ∧ R (Itd d o kvs) H
def RunI (R : It → Hp → Prop) (x : V) (H : Hp) : Prop := ∃ d o kvs, x = .ref d ∧ H d = some (.frz o (.dK kvs)) ∧ R (Iti d o kvs) H
def RunL (K : PySem.W.Frag) (R : It → Hp → Prop) (x : V) (H : Hp) : Prop := ∃ a, x = .ref a ∧ (∃ xs, SqL K H a xs) ∧ R (Itl K a) H
def RunT (K : PySem.W.Frag) (R : It → Hp → Prop) (x : V) (H : Hp) : Prop := ∃ a, x = .ref a ∧ (∃ xs, SqT K H a xs) ∧ R (Itt K a) H
def RunS (R : It → Hp → Prop) (x : V) (H : Hp) : Prop := ∃ z, x = .str z ∧ R (Its z) H
def RunR (R : It → Hp → Prop) (vs : List V) (H : Hp) : Prop := ∃ j : Int, vs = [.int j] ∧ -(2 ^ 62) ≤ j ∧ j < 2 ^ 62 ∧ R (Itr 0 j.toNat) H
theorem x_iK {R : It → Hp → Prop} (h : te σ H fun x H1 => RunK R x H1) : iKeys te σ H R := h
theorem x_iV {R : It → Hp → Prop} (h : te σ H fun x H1 => RunV R x H1) : iVals te σ H R := h
theorem x_iI {R : It → Hp → Prop} (h : te σ H fun x H1 => RunI R x H1) : iItems te σ H R := h
theorem x_iL {R : It → Hp → Prop} (h : te σ H fun x H1 => RunL K R x H1) : iList K te σ H R := h
theorem x_iT {R : It → Hp → Prop} (h : te σ H fun x H1 => RunT K R x H1) : iTup K te σ H R := h
theorem x_iS {R : It → Hp → Prop} (h : te σ H fun x H1 => RunS R x H1) : iStr te σ H R := h
theorem x_iR {R : It → Hp → Prop} (h : al σ H fun x H1 => RunR R x H1) : iRng1 al σ H R := h
theorem runK {R : It → Hp → Prop} {o : Obj} {kvs : List (Key × V)} (h : H p = some (.frz o (.dK kvs))) (q : R (Itk p o kvs) H) : RunK R (.ref p) H := ⟨p, o, rfl, .inl ⟨kvs, h, q⟩⟩
theorem runV {R : It → Hp → Prop} {o : Obj} {kvs : List (Key × V)} (h : H p = some (.frz o (.dK kvs))) (q : R (Itd p o kvs) H) : RunV R (.ref p) H := ⟨p, o, kvs, rfl, h, q⟩
theorem runI {R : It → Hp → Prop} {o : Obj} {kvs : List (Key × V)} (h : H p = some (.frz o (.dK kvs))) (q : R (Iti p o kvs) H) : RunI R (.ref p) H := ⟨p, o, kvs, rfl, h, q⟩
theorem runL {R : It → Hp → Prop} {xs : List V} (h : SqL K H p xs) (q : R (Itl K p) H) : RunL K R (.ref p) H := ⟨p, rfl, ⟨xs, h⟩, q⟩
theorem runT {R : It → Hp → Prop} {xs : List V} (h : SqT K H p xs) (q : R (Itt K p) H) : RunT K R (.ref p) H := ⟨p, rfl, ⟨xs, h⟩, q⟩
theorem runR {R : It → Hp → Prop} {j : Int} (h : -(2 ^ 62) ≤ j ∧ j < 2 ^ 62) (q : R (Itr 0 j.toNat) H) : RunR R [.int j] H := ⟨j, rfl, h.1, h.2, q⟩
theorem lc_by {J : It} {m : Nat} {G : Hp → Prop} {Y : Nat → Hp → V → Hp → Prop} (w : L2.Walk J m G Y) (Pv : Nat → Hp → Prop) (h0 : Pv 0 (upd H D (.lst []))) (hG : ∀ i H, i ≤ m → Pv i H → G H)
    (hs : ∀ i x H H', i < m → Pv i H → Y i H x H' → g x (wipe σ vs) H' fun σ2 H2 => wipe σ2 vs = wipe σ vs ∧ tt σ2 H2 fun b H3 =>
      if b = true then te σ2 H3 fun y H4 => ∃ acc, H4 D = some (.lst acc) ∧ acc.length < sizeLine ∧ Pv (i + 1) (upd H4 D (.lst (acc ++ [y]))) else Pv (i + 1) H3) (hd : ∀ H, Pv m H → Qd H) : LcP J g tt te vs σ D Qd H := L2.lc_it w Pv h0 hG hs hd
theorem dc_by {J : It} {m : Nat} {G : Hp → Prop} {Y : Nat → Hp → V → Hp → Prop} (w : L2.Walk J m G Y) (Pv : Nat → Hp → Prop) (h0 : Pv 0 (upd H D (.dK []))) (hG : ∀ i H, i ≤ m → Pv i H → G H)
    (hs : ∀ i x H H', i < m → Pv i H → Y i H x H' → g x (wipe σ vs) H' fun σ2 H2 => wipe σ2 vs = wipe σ vs ∧ tt σ2 H2 fun b H3 =>
      if b = true then tk σ2 H3 fun y H4 => tv σ2 H4 fun z H5 => ∃ kvs k, y = kV k ∧ H5 D = some (.dK kvs) ∧ kvs.length < sizeLine ∧ Pv (i + 1) (upd H5 D (.dK (putK kvs k z))) else Pv (i + 1) H3) (hd : ∀ H, Pv m H → Qd H) : DcP J g tt tk tv vs σ D Qd H := by
  refine ⟨fun i k H => k = m - i ∧ i ≤ m ∧ Pv i H, ⟨m, by simp, Nat.zero_le _, h0⟩, ?_⟩
  rintro i k H ⟨rfl, hi, hp⟩
  have q := hG i H hi hp
  by_cases hlt : i < m
  · exact .inr ⟨w.goes i H hlt q, Pv (i + 1), fun H' p' => ⟨m - (i + 1), by omega, rfl, hlt, p'⟩, fun x H' y => hs i x H H' hlt hp (w.yields i H x H' hlt q y)⟩
  · have e : i = m := by omega
    subst e
    exact .inl ⟨w.stops H q, hd H hp⟩
theorem lcK {o : Obj} {kvs : List (Key × V)} (Pv : Nat → Hp → Prop) (h0 : Pv 0 (upd H D (.lst []))) (hG : ∀ i H, i ≤ kvs.length → Pv i H → H p = some (.frz o (.dK kvs)))
    (hs : ∀ i k v H, kvs[i]? = some (k, v) → Pv i H → g (kV k) (wipe σ vs) H fun σ2 H2 => wipe σ2 vs = wipe σ vs ∧ tt σ2 H2 fun b H3 =>
      if b = true then te σ2 H3 fun y H4 => ∃ acc, H4 D = some (.lst acc) ∧ acc.length < sizeLine ∧ Pv (i + 1) (upd H4 D (.lst (acc ++ [y]))) else Pv (i + 1) H3) (hd : ∀ H, Pv kvs.length H → Qd H) : LcP (Itk p o kvs) g tt te vs σ D Qd H :=
  lc_by walk_keys Pv h0 hG (fun i x H H' _ hp y => by obtain ⟨rfl, k, v, e, rfl⟩ := y; exact hs i k v _ e hp) hd
theorem lcL {xs : List V} (Pv : Nat → Hp → Prop) (h0 : Pv 0 (upd H D (.lst []))) (hG : ∀ i H, i ≤ xs.length → Pv i H → SqL K H p xs)
    (hs : ∀ i x H, xs[i]? = some x → Pv i H → g x (wipe σ vs) H fun σ2 H2 => wipe σ2 vs = wipe σ vs ∧ tt σ2 H2 fun b H3 =>
      if b = true then te σ2 H3 fun y H4 => ∃ acc, H4 D = some (.lst acc) ∧ acc.length < sizeLine ∧ Pv (i + 1) (upd H4 D (.lst (acc ++ [y]))) else Pv (i + 1) H3) (hd : ∀ H, Pv xs.length H → Qd H) : LcP (Itl K p) g tt te vs σ D Qd H :=
  lc_by walk_list Pv h0 hG (fun i x H H' _ hp y => by obtain ⟨rfl, e⟩ := y; exact hs i x _ e hp) hd
theorem lcT {xs : List V} (Pv : Nat → Hp → Prop) (h0 : Pv 0 (upd H D (.lst []))) (hG : ∀ i H, i ≤ xs.length → Pv i H → SqT K H p xs)
    (hs : ∀ i x H, xs[i]? = some x → Pv i H → g x (wipe σ vs) H fun σ2 H2 => wipe σ2 vs = wipe σ vs ∧ tt σ2 H2 fun b H3 =>
      if b = true then te σ2 H3 fun y H4 => ∃ acc, H4 D = some (.lst acc) ∧ acc.length < sizeLine ∧ Pv (i + 1) (upd H4 D (.lst (acc ++ [y]))) else Pv (i + 1) H3) (hd : ∀ H, Pv xs.length H → Qd H) : LcP (Itt K p) g tt te vs σ D Qd H :=
  lc_by walk_tup Pv h0 hG (fun i x H H' _ hp y => by obtain ⟨rfl, e⟩ := y; exact hs i x _ e hp) hd
theorem dcK {o : Obj} {kvs : List (Key × V)} (Pv : Nat → Hp → Prop) (h0 : Pv 0 (upd H D (.dK []))) (hG : ∀ i H, i ≤ kvs.length → Pv i H → H p = some (.frz o (.dK kvs)))
    (hs : ∀ i k v H, kvs[i]? = some (k, v) → Pv i H → g (kV k) (wipe σ vs) H fun σ2 H2 => wipe σ2 vs = wipe σ vs ∧ tt σ2 H2 fun b H3 =>
      if b = true then tk σ2 H3 fun y H4 => tv σ2 H4 fun z H5 => ∃ kvs k, y = kV k ∧ H5 D = some (.dK kvs) ∧ kvs.length < sizeLine ∧ Pv (i + 1) (upd H5 D (.dK (putK kvs k z))) else Pv (i + 1) H3) (hd : ∀ H, Pv kvs.length H → Qd H) : DcP (Itk p o kvs) g tt tk tv vs σ D Qd H :=
  dc_by walk_keys Pv h0 hG (fun i x H H' _ hp y => by obtain ⟨rfl, k, v, e, rfl⟩ := y; exact hs i k v _ e hp) hd
theorem dcL {xs : List V} (Pv : Nat → Hp → Prop) (h0 : Pv 0 (upd H D (.dK []))) (hG : ∀ i H, i ≤ xs.length → Pv i H → SqL K H p xs)
    (hs : ∀ i x H, xs[i]? = some x → Pv i H → g x (wipe σ vs) H fun σ2 H2 => wipe σ2 vs = wipe σ vs ∧ tt σ2 H2 fun b H3 =>
      if b = true then tk σ2 H3 fun y H4 => tv σ2 H4 fun z H5 => ∃ kvs k, y = kV k ∧ H5 D = some (.dK kvs) ∧ kvs.length < sizeLine ∧ Pv (i + 1) (upd H5 D (.dK (putK kvs k z))) else Pv (i + 1) H3) (hd : ∀ H, Pv xs.length H → Qd H) : DcP (Itl K p) g tt tk tv vs σ D Qd H :=
  dc_by walk_list Pv h0 hG (fun i x H H' _ hp y => by obtain ⟨rfl, e⟩ := y; exact hs i x _ e hp) hd
theorem dcI {o : Obj} {kvs : List (Key × V)} (Pv : Nat → Hp → Prop) (h0 : Pv 0 (upd H D (.dK []))) (hG : ∀ i H, i ≤ kvs.length → Pv i H → H p = some (.frz o (.dK kvs)))
    (hs : ∀ i k v H T, kvs[i]? = some (k, v) → Pv i H → H T = none → g (.ref T) (wipe σ vs) (upd H T (.tup [kV k, v])) fun σ2 H2 => wipe σ2 vs = wipe σ vs ∧ tt σ2 H2 fun b H3 =>
      if b = true then tk σ2 H3 fun y H4 => tv σ2 H4 fun z H5 => ∃ kvs k, y = kV k ∧ H5 D = some (.dK kvs) ∧ kvs.length < sizeLine ∧ Pv (i + 1) (upd H5 D (.dK (putK kvs k z))) else Pv (i + 1) H3) (hd : ∀ H, Pv kvs.length H → Qd H) : DcP (Iti p o kvs) g tt tk tv vs σ D Qd H :=
  dc_by walk_items Pv h0 hG (fun i x H H' _ hp y => by
    obtain ⟨T, k, v, rfl, hT, rfl, e1, e2⟩ := y
    dsimp only at e1 e2
    cases e : kvs[i]? with
    | none => rw [e] at e1; cases e1
    | some kv =>
      rw [e] at e1 e2
      have e3 : kV kv.1 = k := Option.some.inj e1
      have e4 : kv.2 = v := Option.some.inj e2
      subst e3 e4
      exact hs i kv.1 kv.2 _ T e hp hT) hd
/-- a dict is held while it is walked -/
theorem x_lock {d : Addr} {u : HO} (h : H d = some u) (hm : Mut (some u)) (q : ∀ od, t ⟨fun σ' H' => H' d = some (.frz od u) ∧ n σ' (upd H' d u), fun v H' => H' d = some (.frz od u) ∧ r v (upd H' d u), fun σ' H' => H' d = some (.frz od u) ∧ b σ' (upd H' d u), fun σ' H' => H' d = some (.frz od u) ∧ c σ' (upd H' d u)⟩ σ (upd H d (.frz od u))) :
    tLock t ⟨n, r, b, c⟩ σ H := ⟨d, u, h, hm, q⟩
theorem x_lockE {d : Addr} {u : HO} (h : H d = some u) (hm : Mut (some u)) (q : ∀ od, te σ (upd H d (.frz od u)) fun v H' => H' d = some (.frz od u) ∧ Q v (upd H' d u)) : tLockE te σ H Q := ⟨d, u, h, hm, q⟩
/-! ### dicts -/
def rGetA (x y : V) (H : Hp) (Q : VK) : Prop := ∃ a v, x = .ref a ∧ DGet H a y (some v) ∧ Q v H
def rDinA (y x : V) (H : Hp) (Q : VK) : Prop := ∃ a o, x = .ref a ∧ DGet H a y o ∧ Q (.bl o.isSome) H
def rDninA (y x : V) (H : Hp) (Q : VK) : Prop := ∃ a o, x = .ref a ∧ DGet H a y o ∧ Q (.bl (!o.isSome)) H
def rDputA (x y v : V) (H : Hp) (N : Hp → Prop) : Prop := ∃ a H4, x = .ref a ∧ DPut H a y v H4 ∧ N H4
variable {td ty : TE} {x y v : V}
theorem x_dget (h : td σ H fun x H1 => ty σ H1 fun y H2 => rGetA x y H2 Q) : tDGet td ty σ H Q := h
theorem x_din (h : ty σ H fun y H1 => td σ H1 fun x H2 => rDinA y x H2 Q) : tDIn ty td σ H Q := h
theorem x_dnin (h : ty σ H fun y H1 => td σ H1 fun x H2 => rDninA y x H2 Q) : tDNotIn ty td σ H Q := h
theorem x_dput (h : tv σ H fun v H1 => td σ H1 fun x H2 => ty σ H2 fun y H3 => rDputA x y v H3 fun H4 => n σ H4) : sDPut td ty tv ⟨n, r, b, c⟩ σ H := h
theorem x_getS {kvs : List (Key × V)} {z : Str} (h : Rd H p (.dK kvs)) (e : valV kvs (Sum.inr z : Key) = some v) (q : Q v H) : rGetA (.ref p) (.str z) H Q := ⟨p, v, rfl, .inl ⟨kvs, Sum.inr z, h, rfl, e.symm⟩, q⟩
theorem x_dinS {kvs : List (Key × V)} {z : Str} (h : Rd H p (.dK kvs)) (q : Q (.bl (valV kvs (Sum.inr z : Key)).isSome) H) : rDinA (.str z) (.ref p) H Q := ⟨p, _, rfl, .inl ⟨kvs, Sum.inr z, h, rfl, rfl⟩, q⟩
theorem x_dninS {kvs : List (Key × V)} {z : Str} (h : Rd H p (.dK kvs)) (q : Q (.bl (!(valV kvs (Sum.inr z : Key)).isSome)) H) : rDninA (.str z) (.ref p) H Q := ⟨p, _, rfl, .inl ⟨kvs, Sum.inr z, h, rfl, rfl⟩, q⟩
theorem x_putS {kvs : List (Key × V)} {z : Str} {N : Hp → Prop} (h : H p = some (.dK kvs)) (hl : kvs.length < sizeLine) (q : N (upd H p (.dK (putK kvs (Sum.inr z : Key) v)))) : rDputA (.ref p) (.str z) v H N :=
  ⟨p, _, rfl, .inl ⟨kvs, Sum.inr z, h, rfl, hl, rfl⟩, q⟩
theorem x_newK (h : ∀ p, H p = none → Q (.ref p) (upd H p (.dK []))) : tDNewK σ H Q := h
end
end Ox
namespace Ox
open PySem PySem.Spec PyProof.Rows L2
theorem valV_at {kvs : List (Key × V)} (hn : (kvs.map (·.1)).Nodup) {i : Nat} {k : Key} {v : V} (h : kvs[i]? = some (k, v)) : valV kvs k = some v := by
  induction kvs generalizing i with
  | nil => cases h
  | cons p r ih =>
    have hn2 : (p.1 :: r.map (·.1)).Nodup := hn
    obtain ⟨h1, h2⟩ := List.nodup_cons.mp hn2
    unfold valV
    rw [List.find?_cons]
    cases i with
    | zero =>
      have e : p = (k, v) := Option.some.inj h
      subst e
      simp
    | succ i =>
      have h3 : r[i]? = some (k, v) := h
      have ne : ¬ p.1 = k := fun e => h1 (by rw [e]; exact List.mem_map.mpr ⟨(k, v), List.mem_of_getElem? h3, rfl⟩)
      rw [decide_eq_false ne]
      exact ih h2 h3
theorem valV_mem {kvs : List (Key × V)} {k : Key} {v : V} (h : valV kvs k = some v) : (k, v) ∈ kvs := by
  unfold valV at h
  cases e : kvs.find? (fun kv => decide (kv.1 = k)) with
  | none => rw [e] at h; cases h
  | some p =>
    rw [e] at h
    have h1 : p.2 = v := Option.some.inj h
    have h2 := List.find?_some e
    have h3 : p.1 = k := of_decide_eq_true h2
    rw [← h1, ← h3]
    exact List.mem_of_find?_eq_some e
/-- a dict with text keys -/
abbrev strK {α : Type} (f : α → V) (l : List (Str × α)) : List (Key × V) := l.map fun p => (Sum.inr p.1, f p.2)
theorem strK_at {α : Type} {f : α → V} {l : List (Str × α)} {i : Nat} {k : Key} {v : V} (h : (strK f l)[i]? = some (k, v)) : ∃ z x, k = Sum.inr z ∧ v = f x ∧ l[i]? = some (z, x) := by
  rw [List.getElem?_map] at h
  cases e : l[i]? with
  | none => rw [e] at h; cases h
  | some p =>
    rw [e] at h
    have e1 : ((Sum.inr p.1 : Key), f p.2) = (k, v) := Option.some.inj h
    injection e1 with e2 e3
    exact ⟨p.1, p.2, e2.symm, e3.symm, rfl⟩
theorem strK_nd {α : Type} {f : α → V} {l : List (Str × α)} (h : (l.map (·.1)).Nodup) : ((strK f l).map (·.1)).Nodup := by
  rw [List.map_map]
  have e : ((fun x : Key × V => x.1) ∘ fun p : Str × α => ((Sum.inr p.1 : Key), f p.2)) = (fun p : Str × α => (Sum.inr p.1 : Key)) := rfl
  rw [e]
  have e2 : l.map (fun p : Str × α => (Sum.inr p.1 : Key)) = (l.map (·.1)).map Sum.inr := by rw [List.map_map]; rfl
  rw [e2]
  exact List.pairwise_map.mpr (List.Pairwise.imp (fun {a b} hab e => hab (Sum.inr.inj e)) h)
theorem strK_val {α : Type} {f : α → V} {l : List (Str × α)} (h : (l.map (·.1)).Nodup) {i : Nat} {z : Str} {x : α} (e : l[i]? = some (z, x)) : valV (strK f l) (Sum.inr z : Key) = some (f x) :=
  valV_at (strK_nd h) (i := i) (by rw [List.getElem?_map, e]; rfl)
theorem strK_get {α : Type} {f : α → V} {l : List (Str × α)} {z : Str} {v : V} (h : valV (strK f l) (Sum.inr z : Key) = some v) : ∃ x, v = f x ∧ (z, x) ∈ l := by
  obtain ⟨p, hp, e⟩ := List.mem_map.mp (valV_mem h)
  injection e with e1 e2
  injection e1 with e3
  exact ⟨p.2, e2.symm, by rw [← e3]; exact hp⟩
theorem take_succ_get {α : Type} {l : List α} {i : Nat} {x : α} (h : l[i]? = some x) : l.take (i + 1) = l.take i ++ [x] := by
  rw [List.take_succ, h]
  rfl
end Ox
namespace Ox
open PySem PySem.Spec PyProof.Rows L2
/-- sorted(d), d a dict with text keys, of any length that fits the line -/
def rSortDA : List V → Hp → VK → Prop := fun xs H Q => ∃ (d : Addr) (kvs : List (Key × V)) (ks : List Str), xs = [.ref d] ∧ Rd H d (.dK kvs) ∧ kvs.map (·.1) = ks.map Sum.inr ∧ ks.length ≤ 10000 ∧
  ∀ ys p, ys.Perm ks → sortedS ys = true → H p = none → Q (.ref p) (upd H p (.lst (ys.map V.str)))
theorem call_sortedDA {X : Cx} (calm : X.calm = true) : CallR X (.builtin "sorted") rSortDA := by
  intro pn st σ H args us Q I ra hq
  obtain ⟨d, kvs, ks, rfl, rd, ek, len, fin⟩ := hq
  obtain ⟨ud, rfl, rud⟩ := vals1 ra
  cases rud
  obtain ⟨_, low, rows, rowsR, isd⟩ := dk_rd I.hok rd
  obtain ⟨epoch, atd⟩ := isd.dictAt
  have keyE : rows.map Prod.fst = ks.map Sum.inr := Eq.trans rowsR.keys.symm ek
  have lenE : rows.length = ks.length := by
    have t := congrArg List.length keyE
    simpa using t
  have line : ks.length ≤ sizeLine := by rw [sizeLine_eq]; omega
  refine Calls.call_function_entry kind_sorted plain_sorted entry_sorted (args_sorted1 _) ?_
  unfold Builtin.«sorted»
  refine wpAny_bind (m := checkCount "sorted" 1 1 _) (wpAny_pure (wpAny_bind (PySem.W.kdu_collect (A := X.A.in1) (PySem.W.kdl_dict (knd := mixKind X.prog X.w) (kvs := rows) (ep := epoch) low) (I.ok.hd calm) atd (by rw [lenE]; exact line) fun h1 t1 got keep isgot => ?_)))
  have gotL : got.toList.length = ks.length := (Array.length_toList ..).trans (isgot.1.trans lenE)
  have texts : StrsAre got.toList ks := strs_at gotL fun j v ev => by
    obtain ⟨key, _, er, ki⟩ := isgot.2 j v (by rw [← Array.getElem?_toList]; exact ev)
    have ekj : (ks.map Sum.inr)[j]? = some key := by rw [← keyE, List.getElem?_map, er]; rfl
    rw [List.getElem?_map] at ekj
    cases ez : ks[j]? with
    | none => rw [ez] at ekj; cases ekj
    | some z =>
      rw [ez] at ekj
      cases ekj
      obtain ⟨t, et⟩ := Value.isStrOf_shape (x := z) (v := v) ki
      exact ⟨z, t, rfl, et⟩
  have J : Inv X pn σ H { st with heap := h1, toks := t1 } := I.kept keep
  refine wpAny_bind (wpAny_newList ?_ (by rw [gotL]; rw [sizeLine_eq] at line; exact line))
  have isl : (h1.push (seqObj "list" got.toList.toArray 0)).get? h1.objs.size = some (seqObj "list" got.toList.toArray 0) := Heap.get?_push_size _ rfl
  change wpAny _ _ _ _ _ { st with heap := h1.push (seqObj "list" got.toList.toArray 0), toks := t1 }
  refine wpAny_bind (wpAny_holding (wpAny_call_entry slot_list_sort ⟨_, isl, rfl⟩ entry_list_sort (list_sort_treeKAny (s := { st with heap := h1.push (seqObj "list" got.toList.toArray 0), toks := t1 }) strKind_oneLt isl texts.keysOf
    (fun a b c eq => keyKind_strs (by rw [← eq]; exact texts)) (by rw [gotL]; exact line) fun st2 pm so => ⟨_, rfl, ?_⟩) (args_list_sort _)))
  obtain ⟨ys, y1, y2, y3⟩ := sorted_out_str texts pm so
  obtain ⟨ep2, at2⟩ := sortedHeap_at (vs := got.toList) (out := (arrOf st2).map (·.2)) isl
  have ylen : (ys.map V.str).length ≤ sizeLine := by rw [List.length_map, y2.length_eq]; exact line
  have laid := fun kept => J.laid (t' := t1) kept (Nat.le_refl h1.objs.size) (show ObjOk X.prog X.w _ _ _ (.lst (ys.map V.str)) from ⟨ylen, ((arrOf st2).map (·.2)).toList, ep2, vals_of_strs y1, by rw [Array.toArray_toList]; exact at2⟩)
  refine wpAny_pure ⟨_, rfl, .ref h1.objs.size, _, laid fun b u eb => ?_, rfl, fin ys _ y2 y3 (J.hok.fresh (Nat.le_refl _))⟩
  have small := Heap.lt_size eb
  rw [sortedHeap_old (Nat.ne_of_lt small) (by rw [size_push']; exact Nat.lt_succ_of_lt small)]
  exact Heap.get?_push_of_some _ eb
theorem lt_one (a b : Nat) : (([a] : List Nat) < [b]) ↔ a < b := by
  rw [List.cons_lt_cons_iff]
  simp
section
variable {H : Hp} {Q : VK} {d : Nat} {s : Str}
theorem x_leL (c : Nat) (e : s = ⟨#[c]⟩) (q : Q (.bl (decide (c ≤ d))) H) : rStr2 (fun i j => !decide (j.cps.toList < i.cps.toList)) (.str s) (.str ⟨#[d]⟩) H Q := by
  subst e
  refine ⟨_, _, rfl, rfl, ?_⟩
  have h : (!decide ((⟨#[d]⟩ : Str).cps.toList < (⟨#[c]⟩ : Str).cps.toList)) = decide (c ≤ d) := by
    show (!decide ([d] < [c])) = _
    rw [show decide (([d] : List Nat) < [c]) = decide (d < c) from decide_eq_decide.mpr (lt_one d c)]
    by_cases z : d < c
    · have : ¬ c ≤ d := by omega
      simp [z, this]
    · have : c ≤ d := by omega
      simp [z, this]
  dsimp only
  rw [h]
  exact q
theorem x_leR (c : Nat) (e : s = ⟨#[c]⟩) (q : Q (.bl (decide (d ≤ c))) H) : rStr2 (fun i j => !decide (j.cps.toList < i.cps.toList)) (.str ⟨#[d]⟩) (.str s) H Q := by
  subst e
  refine ⟨_, _, rfl, rfl, ?_⟩
  have h : (!decide ((⟨#[c]⟩ : Str).cps.toList < (⟨#[d]⟩ : Str).cps.toList)) = decide (d ≤ c) := by
    show (!decide ([c] < [d])) = _
    rw [show decide (([c] : List Nat) < [d]) = decide (c < d) from decide_eq_decide.mpr (lt_one c d)]
    by_cases z : c < d
    · have : ¬ d ≤ c := by omega
      simp [z, this]
    · have : d ≤ c := by omega
      simp [z, this]
  dsimp only
  rw [h]
  exact q
end
theorem chr_a : ("a" : Str) = ⟨#[97]⟩ := by decide +kernel
theorem chr_z : ("z" : Str) = ⟨#[122]⟩ := by decide +kernel
theorem chr_0 : ("0" : Str) = ⟨#[48]⟩ := by decide +kernel
theorem chr_9 : ("9" : Str) = ⟨#[57]⟩ := by decide +kernel
end Ox
namespace Ox
open PySem PySem.Spec PyProof.Rows L2
/-! ### dicts with text keys as association lists -/
theorem strK_look {α : Type} {f : α → V} (l : List (Str × α)) (z : Str) : valV (strK f l) (Sum.inr z : Key) = (l.lookup z).map f := by
  induction l with
  | nil => rfl
  | cons p r ih =>
    show valV ((Sum.inr p.1, f p.2) :: strK f r) (Sum.inr z : Key) = _
    unfold valV
    rw [List.find?_cons, List.lookup_cons]
    by_cases e : p.1 = z
    · subst e
      simp
    · have e1 : ¬ (Sum.inr p.1 : Key) = Sum.inr z := fun q => e (Sum.inr.inj q)
      have e2 : (z == p.1) = false := by simpa using fun q : z = p.1 => e q.symm
      rw [decide_eq_false e1, e2]
      exact ih
/-- a store -/
def putL {α : Type} (l : List (Str × α)) (z : Str) (x : α) : List (Str × α) := if z ∈ l.map (·.1) then l.map (fun p => if p.1 = z then (p.1, x) else p) else l ++ [(z, x)]
theorem putL_new {α : Type} {l : List (Str × α)} {z : Str} (x : α) (h : z ∉ l.map (·.1)) : putL l z x = l ++ [(z, x)] := by
  unfold putL
  rw [if_neg h]
theorem putL_keys {α : Type} {l : List (Str × α)} {z : Str} (x : α) (h : z ∈ l.map (·.1)) : (putL l z x).map (·.1) = l.map (·.1) := by
  unfold putL
  rw [if_pos h, List.map_map]
  refine List.map_congr_left fun p _ => ?_
  show (if p.1 = z then (p.1, x) else p).1 = p.1
  split <;> rfl
theorem putL_nd {α : Type} {l : List (Str × α)} {z : Str} (x : α) (h : (l.map (·.1)).Nodup) : ((putL l z x).map (·.1)).Nodup := by
  by_cases e : z ∈ l.map (·.1)
  · rw [putL_keys x e]
    exact h
  · rw [putL_new x e, List.map_append]
    exact List.nodup_append.mpr ⟨h, by simp, fun a ha b hb q => by
      rw [List.map_cons, List.map_nil, List.mem_singleton] at hb
      rw [q, hb] at ha
      exact e ha⟩
theorem putL_len {α : Type} (l : List (Str × α)) (z : Str) (x : α) : (putL l z x).length ≤ l.length + 1 := by
  unfold putL
  split <;> simp
theorem putL_mem {α : Type} {l : List (Str × α)} {z : Str} {x : α} {p : Str × α} (h : p ∈ putL l z x) : p = (z, x) ∨ (p ∈ l ∧ p.1 ≠ z) := by
  unfold putL at h
  by_cases e : z ∈ l.map (·.1)
  · rw [if_pos e] at h
    obtain ⟨q, hq, e2⟩ := List.mem_map.mp h
    by_cases eq : q.1 = z
    · rw [if_pos eq, eq] at e2
      exact .inl e2.symm
    · rw [if_neg eq] at e2
      rw [← e2]
      exact .inr ⟨hq, eq⟩
  · rw [if_neg e] at h
    rcases List.mem_append.mp h with h | h
    · exact .inr ⟨h, fun q => e (by rw [← q]; exact List.mem_map.mpr ⟨p, h, rfl⟩)⟩
    · exact .inl (List.mem_singleton.mp h)
theorem strK_put {α : Type} {f : α → V} (l : List (Str × α)) (z : Str) (x : α) : putK (strK f l) (Sum.inr z : Key) (f x) = strK f (putL l z x) := by
  have ha : ((strK f l).any fun kv => decide (kv.1 = (Sum.inr z : Key))) = decide (z ∈ l.map (·.1)) := by
    induction l with
    | nil => rfl
    | cons p r ih =>
      show ((decide ((Sum.inr p.1 : Key) = Sum.inr z)) || ((strK f r).any fun kv => decide (kv.1 = (Sum.inr z : Key)))) = decide (z ∈ p.1 :: r.map (·.1))
      rw [ih]
      by_cases e : p.1 = z
      · simp [e]
      · have e2 : ¬ z = p.1 := fun q => e q.symm
        simp [e, e2]
  unfold putK putL
  rw [ha]
  by_cases e : z ∈ l.map (·.1)
  · rw [if_pos (decide_eq_true e), if_pos e]
    show (List.map _ (List.map _ l)) = List.map _ (List.map _ l)
    rw [List.map_map, List.map_map]
    refine List.map_congr_left fun p _ => ?_
    show (if (Sum.inr p.1 : Key) = Sum.inr z then ((Sum.inr p.1 : Key), f x) else (Sum.inr p.1, f p.2)) = ((Sum.inr (if p.1 = z then (p.1, x) else p).1 : Key), f (if p.1 = z then (p.1, x) else p).2)
    by_cases h : p.1 = z
    · rw [if_pos h, if_pos (by rw [h])]
    · rw [if_neg h, if_neg (fun q => h (Sum.inr.inj q))]
  · rw [if_neg (by simp only [decide_eq_true_eq]; exact e), if_neg e]
    exact (List.map_append (l₁ := l) (l₂ := [(z, x)]) (f := fun p : Str × α => ((Sum.inr p.1 : Key), f p.2))).symm
theorem lookup_mem {α : Type} {l : List (Str × α)} {z : Str} {x : α} (h : l.lookup z = some x) : (z, x) ∈ l := by
  induction l with
  | nil => cases h
  | cons p r ih =>
    rw [List.lookup_cons] at h
    by_cases e : z = p.1
    · subst e
      rw [beq_self_eq_true] at h
      cases h
      exact List.mem_cons_self
    · have e2 : (z == p.1) = false := by simpa using e
      rw [e2] at h
      exact List.mem_cons_of_mem _ (ih h)
theorem lookup_of {α : Type} {l : List (Str × α)} (hn : (l.map (·.1)).Nodup) {z : Str} {x : α} (h : (z, x) ∈ l) : l.lookup z = some x := by
  induction l with
  | nil => cases h
  | cons p r ih =>
    obtain ⟨h1, h2⟩ := List.nodup_cons.mp (show (p.1 :: r.map (·.1)).Nodup from hn)
    rw [List.lookup_cons]
    rcases List.mem_cons.mp h with e | h
    · rw [← e]
      simp
    · have ne : ¬ z = p.1 := fun q => h1 (by rw [← q]; exact List.mem_map.mpr ⟨(z, x), h, rfl⟩)
      have e2 : (z == p.1) = false := by simpa using ne
      rw [e2]
      exact ih h2 h
theorem lookup_isSome {α : Type} {l : List (Str × α)} {z : Str} (h : z ∈ l.map (·.1)) : ∃ x, l.lookup z = some x := by
  induction l with
  | nil => cases h
  | cons p r ih =>
    rw [List.lookup_cons]
    by_cases e : z = p.1
    · subst e
      exact ⟨p.2, by simp⟩
    · have e2 : (z == p.1) = false := by simpa using e
      rw [e2]
      exact ih ((List.mem_cons.mp h).resolve_left e)
theorem lookup_none {α : Type} {l : List (Str × α)} {z : Str} (h : z ∉ l.map (·.1)) : l.lookup z = none := by
  cases e : l.lookup z with
  | none => rfl
  | some x => exact absurd (List.mem_map.mpr ⟨_, lookup_mem e, rfl⟩) h
theorem lookup_perm {α : Type} {l l' : List (Str × α)} (hp : l'.Perm l) (hn : (l.map (·.1)).Nodup) (z : Str) : l'.lookup z = l.lookup z := by
  have hn' : (l'.map (·.1)).Nodup := (List.Perm.nodup_iff (hp.map _)).mpr hn
  cases e : l.lookup z with
  | some x => exact lookup_of hn' (hp.mem_iff.mpr (lookup_mem e))
  | none =>
    cases e2 : l'.lookup z with
    | none => rfl
    | some x =>
      have := lookup_of hn (hp.mem_iff.mp (lookup_mem e2))
      rw [e] at this
      cases this
/-- the same table, its keys in another order -/
theorem table_perm {α : Type} {l : List (Str × α)} {ys : List Str} (hn : (l.map (·.1)).Nodup) (hp : ys.Perm (l.map (·.1))) (d : α) : (ys.map fun z => (z, (l.lookup z).getD d)).Perm l := by
  have h1 := hp.map fun z => (z, (l.lookup z).getD d)
  have h2 : (l.map (·.1)).map (fun z => (z, (l.lookup z).getD d)) = l := by
    rw [List.map_map]
    conv => rhs; rw [← List.map_id l]
    refine List.map_congr_left fun p hp => ?_
    show (p.1, (l.lookup p.1).getD d) = p
    rw [lookup_of hn (z := p.1) (x := p.2) hp]
    rfl
  rw [h2] at h1
  exact h1
section
variable {σ : L2.St} {H : Hp} {n : L2.St → Hp → Prop} {r : VK} {b c : L2.St → Hp → Prop} {ta tv : TE} {K : PySem.W.Frag}
def rSfA (K : PySem.W.Frag) (f : Str) (x y : V) (H : Hp) (N : Hp → Prop) : Prop := ∃ a C dx fs, x = .ref a ∧ H a = some (.ins C dx fs) ∧ Cls K C ∧ NoAttr K C f ∧ fs.length < 1000 ∧ N (upd H a (.ins C dx (putF f y fs)))
theorem x_sfld {f : Str} (h : tv σ H fun y H1 => ta σ H1 fun x H2 => rSfA K f x y H2 fun H3 => n σ H3) : sFld K ta tv f ⟨n, r, b, c⟩ σ H := h
theorem x_sf {a C dx : Addr} {fs : List (Str × V)} {f : Str} {y : V} {N : Hp → Prop} (hc : Cls K C) (hn : NoAttr K C f) (h : H a = some (.ins C dx fs)) (hl : fs.length < 1000) (q : N (upd H a (.ins C dx (putF f y fs)))) : rSfA K f (.ref a) y H N :=
  ⟨a, C, dx, fs, rfl, h, hc, hn, hl, q⟩
end
end Ox
namespace Ox
open PySem PySem.Spec PyProof.Rows L2
/-! ### rules with the written part told by a letter (for a comprehension's block) -/
section
variable {X : Cx} {K : PySem.W.Frag}
theorem ix_listK (e : X.K = K := by rfl) : IxR X (rIxL K) := e ▸ ix_list
theorem ix_tupK (e : X.K = K := by rfl) : IxR X (rIxT K) := e ▸ ix_tup
theorem call_lenAK (e : X.K = K := by rfl) : CallR X (.builtin "len") (rLenA K) := e ▸ call_lenA
theorem op_in_seqK (e : X.K = K := by rfl) : OpR X (compareOp .In) (rIn K false) := e ▸ op_in_seq
theorem op_notIn_seqK (e : X.K = K := by rfl) : OpR X (compareOp .NotIn) (rIn K true) := e ▸ op_notIn_seq
theorem call_isiK (e : X.K = K := by rfl) : CallR X (.builtin "isinstance") (rIsi K) := e ▸ call_isi
theorem call_listAK (e : X.K = K := by rfl) : CallR X (.type "list") (rListA K) := e ▸ call_listA
theorem call_tupleAK (e : X.K = K := by rfl) : CallR X (.type "tuple") (rTupleA K) := e ▸ call_tupleA
theorem sl_listK (e : X.K = K := by rfl) : SlR X (rSlL K) := e ▸ sl_list
theorem pe_fldK {o : Expr} {f : Str} {pos : Pos} {ta : TE} (he : PE X o ta) (hb : attributeBase o f X.env (eval o X.env) = eval o X.env) (e : X.K = K := by rfl) : PE X (.Attribute o f pos) (tFld K ta f) := e ▸ pe_fld he hb
end
end Ox
namespace Ox
open PySem PySem.Spec PyProof.Rows L2
theorem pg_tupK {X : Cx} {K : PySem.W.Frag} {es : List Expr} {k : Nat} {pos : Pos} {t : TGs} {n : Nat} (hc : X.calm = true) (h : PGs X es t) (hn : (assignEach es X.env).length = n := by rfl) (hst : (assignEach es X.env).findIdx? (·.1) = none := by rfl)
    (e : X.K = K := by rfl) : PG X (.Tuple es k pos) (gTup K n t) := e ▸ pg_tup hc h hn hst
end Ox
namespace Ox
open PySem PySem.Spec PyProof.Rows L2
theorem putL_old {α : Type} {l : List (Str × α)} {z : Str} (x : α) (h : z ∈ l.map (·.1)) : putL l z x = l.map fun p => if p.1 = z then (p.1, x) else p := by
  unfold putL
  rw [if_pos h]
theorem putL_putL {α : Type} (l : List (Str × α)) (z : Str) (a b : α) : putL (putL l z a) z b = putL l z b := by
  by_cases e : z ∈ l.map (·.1)
  · have e2 : z ∈ (putL l z a).map (·.1) := by rw [putL_keys a e]; exact e
    rw [putL_old b e2, putL_old b e, putL_old a e, List.map_map]
    refine List.map_congr_left fun p _ => ?_
    show (if (if p.1 = z then (p.1, a) else p).1 = z then ((if p.1 = z then (p.1, a) else p).1, b) else (if p.1 = z then (p.1, a) else p)) = _
    by_cases h : p.1 = z
    · simp [h]
    · simp [h]
  · have e2 : z ∈ (putL l z a).map (·.1) := by rw [putL_new a e]; simp
    rw [putL_old b e2, putL_new a e, putL_new b e, List.map_append]
    have h4 : (l.map fun p => if p.1 = z then (p.1, b) else p) = l := by
      conv => rhs; rw [← List.map_id l]
      refine List.map_congr_left fun p hp => ?_
      have : ¬ p.1 = z := fun q => e (by rw [← q]; exact List.mem_map.mpr ⟨p, hp, rfl⟩)
      rw [if_neg this]
      rfl
    rw [h4]
    simp
end Ox

/-! Own layer, second part: list(d.values()), kinds of values, own classes. -/
namespace Ox
open PySem PySem.Spec PyProof.Rows L2
/-! ### list(d.values()), list(d) -/
def rListVA (x : V) (H : Hp) (Q : VK) : Prop := ∃ (d : Addr) (kvs : List (Key × V)), x = .ref d ∧ Rd H d (.dK kvs) ∧ ∀ p, H p = none → Q (.ref p) (upd H p (.lst (kvs.map Prod.snd)))
def tListVA (te : TE) : TE := fun σ H Q => te σ H fun x H1 => rListVA x H1 Q
section
variable {X : Cx} {e : Expr} {te : TE} {p apos cpos pos : Pos}
theorem pe_listV (hc : X.calm = true) (he : PE X e te) (hg : Gl X "list") (hm : X.mg "list" = none) (hv : bootBuiltins "list" = some (.type "list") := by decide +kernel)
    (hbase : attributeBase e "values" X.env (eval e X.env) = eval e X.env := by rfl)
    (hline : (apos.endLine == cpos.line) = true := by rfl)
    (hs : starEach [.Call (.Attribute e "values" apos) [] [] cpos] X.env = (false, eval (.Call (.Attribute e "values" apos) [] [] cpos) X.env) :: starEach [] X.env := by rfl) :
    PE X (.Call (.Name "list" p) [.Call (.Attribute e "values" apos) [] [] cpos] [] pos) (tListVA te) := ⟨fun pins s σ H Q I hq => by
  refine wpAny_Call_Name_kw (ld_blt I hg hm hv (PyProof.Rows.callWith_type1 ?_ hs rfl))
  rw [hs]
  show wpAny _ _ (spliced ((false, eval (.Call (.Attribute e "values" apos) [] [] cpos) X.env) :: backTo pos (starEach [] X.env))) _ _ _
  refine Calls.spliced_cons (wpAny_Call_method (T := "dict") (id := "dict.values") hbase rfl hline F.plainAttrs_dict F.slot_dict_values F.type_dict_values ?_)
  refine thn (he.run pins s σ H _ I hq) fun u s1 ⟨x, H1, I1, rx, d, kvs, ex, hd, q⟩ => ?_
  subst ex
  obtain rfl : u = Value.ref d := rx
  obtain ⟨hz, hs0, ws, kv, hdo⟩ := (show ObjOk X.prog X.w H1 s1.heap d (.dK kvs) from hd.ok I1.hok)
  obtain ⟨ep, hat⟩ := hdo.dictAt
  have lk : kvs.length = ws.length := Paired.length kv
  have I2 : Inv X pins σ H1 { s1 with heap := s1.heap.push { cls := .type "dict_values", data := .fields #[.ref d] } } := I1.kept fun b ob q => Heap.get?_push_of_some _ q
  refine ⟨hdo.typeIs, hdo.mapOf.noDict, ?_⟩
  show wpAny _ _ (callWith cpos (.builtin "dict.values") [.ref d] [] []) _ X.xe s1
  refine method_meetsIn F.slot_dict_values F.entry_dict_values rfl (PySem.evalArgs_none ⟨rfl, hdo.typeIs, F.args_dict_values_1 _, _, meets_dict_values (mixKind X.prog X.w) d hs0, ⟨ws, hdo⟩, Calls.spliced_nil ?_⟩)
  refine PySem.W.kdl_call (PySem.W.kdl_values (knd := mixKind X.prog X.w) (kvs := ws) (ep := ep)) (I1.ok.hd hc) ⟨⟨_, Heap.get?_push_size _ rfl, rfl, rfl⟩, hat.push _⟩ (by omega) fun h' tk acc c hk hS hacc => ?_
  refine ⟨.ref _, upd H1 _ (.lst (kvs.map Prod.snd)), I2.laid hk (Nat.le_refl _) (show ObjOk X.prog X.w _ _ _ (.lst (kvs.map Prod.snd)) from ⟨by rw [List.length_map]; exact hz, acc.toList, c, ?_, by rw [Array.toArray_toList]; exact hS⟩), rfl, q _ (I2.hok.fresh (Nat.le_refl _))⟩
  have el : acc.toList.length = acc.size := by simp
  refine vals_of_at (by rw [List.length_map, el, hacc.1, lk]) fun j x w h1 h2 => ?_
  obtain ⟨k, hky⟩ := hacc.2 j w (by rw [← Array.getElem?_toList]; exact h2)
  rw [List.getElem?_map] at h1
  cases e2 : kvs[j]? with
  | none => rw [e2] at h1; cases h1
  | some kvj =>
    rw [e2] at h1
    have h3 : kvj.2 = x := Option.some.inj h1
    obtain ⟨y, hy, _, ry⟩ := LiI.paired_get kv e2
    rw [hky] at hy
    cases hy
    rw [← h3]
    exact ry⟩
end
theorem x_listV {σ : L2.St} {H : Hp} {Q : VK} {te : TE} (h : te σ H fun x H1 => rListVA x H1 Q) : tListVA te σ H Q := h
theorem x_listv {H : Hp} {Q : VK} {d : Addr} {kvs : List (Key × V)} (h : Rd H d (.dK kvs)) (q : ∀ p, H p = none → Q (.ref p) (upd H p (.lst (kvs.map Prod.snd)))) : rListVA (.ref d) H Q := ⟨d, kvs, rfl, h, q⟩
theorem x_listD {H : Hp} {Q : VK} {d : Addr} {kvs : List (Key × V)} (h : H d = some (.dK kvs)) (q : ∀ p, H p = none → Q (.ref p) (upd H p (.lst (kvs.map fun kv => kV kv.1)))) : rListD [.ref d] H Q := ⟨d, kvs, rfl, h, q⟩
/-! ### kinds of values -/
inductive Kn where
  | non | bl | int | str | lst | tup | dict
  deriving DecidableEq
def Kn.ty : Kn → String
  | .non => "NoneType" | .bl => "bool" | .int => "int" | .str => "str" | .lst => "list" | .tup => "tuple" | .dict => "dict"
/-- x is of the kind -/
inductive Kd (K : PySem.W.Frag) (H : Hp) : V → Kn → Prop where
  | non : Kd K H .non .non
  | bl (b : Bool) : Kd K H (.bl b) .bl
  | int (i : Int) : Kd K H (.int i) .int
  | str (z : Str) : Kd K H (.str z) .str
  | lst {a : Addr} {xs : List V} (h : SqL K H a xs) : Kd K H (.ref a) .lst
  | tup {a : Addr} {xs : List V} (h : SqT K H a xs) : Kd K H (.ref a) .tup
  | dict {a : Addr} {kvs : List (Key × V)} (h : Rd H a (.dK kvs)) : Kd K H (.ref a) .dict
theorem Kd.tyx {K : PySem.W.Frag} {H : Hp} {x : V} {k : Kn} (h : Kd K H x k) : TyX K H x (.type k.ty) := by
  cases h with
  | non => exact .base .non
  | bl b => exact .base (.bl b)
  | int i => exact .base (.int i)
  | str z => exact .base (.str z)
  | lst h =>
    rcases h with (h | ⟨o, h⟩) | ⟨o, its, n, h1, h2, _⟩
    · exact .base (.lst h)
    · exact .base (.frz h)
    · exact .kList h1 h2
  | tup h =>
    rcases h with (h | ⟨o, h⟩) | ⟨o, its, n, h1, h2, _⟩
    · exact .base (.tup h)
    · exact .fTuple h
    · exact .kTuple h1 h2
  | dict h =>
    rcases h with h | ⟨o, h⟩
    · exact .base (.dK h)
    · exact .fDict h
def isB : Kn → Kn → Bool
  | .non, .non => true | .bl, .bl => true | .bl, .int => true | .int, .int => true | .str, .str => true | .lst, .lst => true | .tup, .tup => true | .dict, .dict => true
  | _, _ => false
theorem kitB_is : ∀ k T : Kn, T ≠ .non → kitB k.ty T.ty = some (isB k T) := by
  intro k T hT
  cases T with
  | non => exact absurd rfl hT
  | _ => cases k <;> decide +kernel
section
variable {K : PySem.W.Frag} {H : Hp} {Q : VK} {x : V} {k : Kn}
theorem x_isi (T : Kn) (h : Kd K H x k) (q : Q (.bl (isB k T)) H) (hT : T ≠ .non := by decide) : rIsi K [x, .ty T.ty] H Q := ⟨x, _, _, _, _, rfl, .ty _, h.tyx, kit_ty (kitB_is k T hT), q⟩
theorem x_isiInt (h : Kd K H x k) (q : Q (.bl (isB k .int)) H) : rIsi K [x, .ty "int"] H Q := x_isi .int h q
theorem x_isiBool (h : Kd K H x k) (q : Q (.bl (isB k .bl)) H) : rIsi K [x, .ty "bool"] H Q := x_isi .bl h q
theorem x_isiStr (h : Kd K H x k) (q : Q (.bl (isB k .str)) H) : rIsi K [x, .ty "str"] H Q := x_isi .str h q
theorem x_isiList (h : Kd K H x k) (q : Q (.bl (isB k .lst)) H) : rIsi K [x, .ty "list"] H Q := x_isi .lst h q
theorem x_isiTup (h : Kd K H x k) (q : Q (.bl (isB k .tup)) H) : rIsi K [x, .ty "tuple"] H Q := x_isi .tup h q
theorem x_isiDict (h : Kd K H x k) (q : Q (.bl (isB k .dict)) H) : rIsi K [x, .ty "dict"] H Q := x_isi .dict h q
end
/-! ### own classes: isinstance -/
/-- the class at C: what isinstance asks of it -/
structure Isc (K : PySem.W.Frag) (C : Addr) : Prop where
  cl : Cls K C
  ha : PySem.W.findIn K (.ref C) "__class__" = some (some (.builtin "object.__class__"))
  hn : PySem.W.specialIn K (.builtin "object.__class__") "__get__" = some (some (.builtin "getset_descriptor.__get__"))
  ht : PySem.W.takesIn K (.builtin "object.__class__") = some true
  hm : PySem.W.mroIn K C (.type "object") = some true
theorem x_isiOwn {K : PySem.W.Frag} {H : Hp} {Q : VK} {a C D dx : Addr} {fs : List (Str × V)} {b : Bool} (i : Isc K C) (h : H a = some (.ins C dx fs)) (hk : PySem.W.kitOne K (.ref C) (.ref D) = some b) (q : Q (.bl b) H) : rIsi K [.ref a, .ref D] H Q :=
  ⟨_, _, _, _, _, rfl, .own D, .base (.ins h i.cl i.ha i.hn i.ht i.hm), hk, q⟩
theorem iscB_ok {C : Str} {K : PySem.W.Frag} (h : iscB C K = true) : Isc K (He.ga K C) := by
  obtain ⟨h1, h⟩ := Bool.and_eq_true_iff.mp h
  obtain ⟨h2, h⟩ := Bool.and_eq_true_iff.mp h
  obtain ⟨h3, h⟩ := Bool.and_eq_true_iff.mp h
  obtain ⟨h4, h5⟩ := Bool.and_eq_true_iff.mp h
  exact ⟨He.cls_ok h1, He.eqO_ok h2, He.eqO_ok h3, of_decide_eq_true h4, of_decide_eq_true h5⟩
theorem kitF_ok {C D : Str} {b : Bool} {K : PySem.W.Frag} (h : kitF C D b K = true) : PySem.W.kitOne K (.ref (He.ga K C)) (.ref (He.ga K D)) = some b := of_decide_eq_true h
end Ox
namespace Ox
open PySem PySem.Spec PyProof.Rows L2
/-! ### == by an own __eq__, any answer -/
def rEqOwn (C : Addr) (sp : Sp) : R2 := fun x y H Q => ∃ a b dx dy fs gs, x = .ref a ∧ y = .ref b ∧ H a = some (.ins C dx fs) ∧ H b = some (.ins C dy gs) ∧ sp [.ref a, .ref b] H (fun v H' => ∃ k, v = .bl k ∧ Q (.bl k) H') E0
theorem op_eqOwn {X : Cx} {C : Addr} {k : Nat} {sp : Sp} {ps : List Str} (M : Met X.prog X.w X.K X.mg X.base C k "__eq__" ps sp) (hr : Room k X.A) : OpR X (compareOp .Eq) (rEqOwn C sp) := by
  obtain ⟨f, fd, mt, F, hb⟩ := M.ex
  intro pins s σ H x y u v Q I rx ry h
  obtain ⟨a, b, dx, dy, fs, gs, rfl, rfl, ha, hb2, hsp⟩ := h
  cases rx
  cases ry
  obtain ⟨mA, J, _⟩ := ins_get I.hok ha
  obtain ⟨mB, J2, _⟩ := ins_get I.hok hb2
  obtain ⟨od, J, _⟩ := J.look
  obtain ⟨od2, J2, _⟩ := J2.look
  obtain ⟨m, hF⟩ := I.fr
  show wpAny (model X.prog X.w) X.A (richCompare .Eq (.ref a) (.ref b)) (EP X pins σ Q) X.xe s
  refine PySem.W.cmp_K (op := .Eq) (tb := .ref C) hr.units0 hF I.ok.mod.kin J J2.type (by simp [PySem.W.notFirst]) mt.at_ mt.fn ?_
  have hl := F.len _ _ _ _ hsp
  have r2 : Vals [V.ref a, V.ref b] [Value.ref a, Value.ref b] := .cons rfl (.cons rfl .nil)
  refine wpAny_call (codeAny_mono (F.run X.A X.stack s H ⟨[.ref a, .ref b], []⟩ [.ref a, .ref b] [.ref a, .ref b] _ E0 hr I.env0 (by
    have := hb s [.ref a, .ref b] I.kIn (by simpa using hl)
    simpa using this) r2 hsp) fun r s' hq => ?_)
  cases r with
  | error e => exact hq.elim
  | ok fl =>
    cases fl with
    | ret w =>
      obtain ⟨z, H', I', rz, kk, ez, q⟩ := I.after hq
      subst ez
      cases rz
      exact ⟨.bl kk, H', I', rfl, q⟩
    | next => exact False.elim hq
    | brk => exact False.elim hq
    | cont => exact False.elim hq
theorem x_eqOwn {C : Addr} {sp : Sp} {H : Hp} {Q : VK} {a b dx dy : Addr} {fs gs : List (Str × V)} (ha : H a = some (.ins C dx fs)) (hb : H b = some (.ins C dy gs)) (h : sp [.ref a, .ref b] H (fun v H' => ∃ k, v = .bl k ∧ Q (.bl k) H') E0) : rEqOwn C sp (.ref a) (.ref b) H Q :=
  ⟨a, b, dx, dy, fs, gs, rfl, rfl, ha, hb, h⟩
end Ox
namespace Ox
open PySem PySem.Spec PyProof.Rows L2
theorem Kd.same {K : PySem.W.Frag} {H H' : Hp} {x : V} {k : Kn} (s : L2.Same H H') (h : Kd K H x k) : Kd K H' x k := by
  cases h with
  | non => exact .non
  | bl b => exact .bl b
  | int i => exact .int i
  | str z => exact .str z
  | lst h => exact .lst (s.seq h)
  | tup h => exact .tup (same_t s h)
  | dict h => exact .dict (same_rd s h)
/-- .. where one dict is held -/
theorem Kd.held {K : PySem.W.Frag} {H : Hp} {x : V} {k : Kn} {d : Addr} {o : Obj} {kvs : List (Key × V)} (hd : H d = some (.dK kvs)) (h : Kd K H x k) : Kd K (upd H d (.frz o (.dK kvs))) x k := by
  have rd : ∀ {a u}, Rd H a u → Rd (upd H d (.frz o (.dK kvs))) a u := fun {a u} h => by
    by_cases e : a = d
    · subst e
      rcases h with h | ⟨o', h⟩
      · rw [hd] at h
        cases h
        exact .inr ⟨o, upd_same⟩
      · rw [hd] at h
        cases h
    · rcases h with h | ⟨o', h⟩
      · exact .inl (by rw [upd_ne e]; exact h)
      · exact .inr ⟨o', by rw [upd_ne e]; exact h⟩
  cases h with
  | non => exact .non
  | bl b => exact .bl b
  | int i => exact .int i
  | str z => exact .str z
  | lst h => exact .lst (h.elim (fun h => .inl (rd h)) .inr)
  | tup h => exact .tup (h.elim (fun h => .inl (rd h)) .inr)
  | dict h => exact .dict (rd h)
end Ox
namespace Ox
open PySem PySem.Spec PyProof.Rows L2
section
variable {σ : L2.St} {H : Hp} {Q : VK} {ta : TE} {K : PySem.W.Frag} {C : Addr} {sp : Sp}
def rRevA (K : PySem.W.Frag) (x : V) (H : Hp) (Q : VK) : Prop := ∃ a xs, x = .ref a ∧ SqL K H a xs ∧ ∀ p, H p = none → Q (.ref p) (upd H p (.lst xs.reverse))
theorem x_revL (h : ta σ H fun x H1 => rRevA K x H1 Q) : tRevL K ta σ H Q := h
theorem x_rev {a : Addr} {xs : List V} (h : SqL K H a xs) (q : ∀ p, H p = none → Q (.ref p) (upd H p (.lst xs.reverse))) : rRevA K (.ref a) H Q := ⟨a, xs, rfl, h, q⟩
def rPropA (C : Addr) (sp : Sp) (x : V) (H : Hp) (Q : VK) : Prop := ∃ a dx fs, x = .ref a ∧ H a = some (.ins C dx fs) ∧ sp [.ref a] H Q E0
theorem x_prop (h : ta σ H fun x H1 => rPropA C sp x H1 Q) : tProp C sp [] E0 ta σ H Q := h
theorem x_prp {a dx : Addr} {fs : List (Str × V)} (h : H a = some (.ins C dx fs)) (q : sp [.ref a] H Q E0) : rPropA C sp (.ref a) H Q := ⟨a, dx, fs, rfl, h, q⟩
theorem x_putL {α : Type} {f : α → V} {l : List (Str × α)} {z : Str} {x : α} {v : V} {p : Addr} {N : Hp → Prop} (h : H p = some (.dK (strK f l))) (hl : l.length < 10000) (hv : v = f x) (q : N (upd H p (.dK (strK f (putL l z x))))) : rDputA (.ref p) (.str z) v H N := by
  subst hv
  refine x_putS h (sz_lt (by rw [List.length_map]; exact hl)) ?_
  rw [strK_put]
  exact q
theorem x_getL {α : Type} {f : α → V} {l : List (Str × α)} {z : Str} {x : α} {p : Addr} (h : Rd H p (.dK (strK f l))) (e : l.lookup z = some x) (q : Q (f x) H) : rGetA (.ref p) (.str z) H Q :=
  x_getS h (by rw [strK_look, e]; rfl) q
theorem x_inD {α : Type} {f : α → V} {l : List (Str × α)} {z : Str} {p : Addr} (h : Rd H p (.dK (strK f l))) (q : Q (.bl (l.lookup z).isSome) H) : rDinA (.str z) (.ref p) H Q := by
  refine x_dinS h ?_
  rw [strK_look, Option.isSome_map]
  exact q
theorem x_ninD {α : Type} {f : α → V} {l : List (Str × α)} {z : Str} {p : Addr} (h : Rd H p (.dK (strK f l))) (q : Q (.bl (!(l.lookup z).isSome)) H) : rDninA (.str z) (.ref p) H Q := by
  refine x_dninS h ?_
  rw [strK_look, Option.isSome_map]
  exact q
end
end Ox
namespace Ox
open PySem PySem.Spec PyProof.Rows L2
/-- a dict was held, then set free -/
theorem same_back {H H' : Hp} {d : Addr} {o : Obj} {u : HO} (hd : H d = some u) (s : L2.Same (upd H d (.frz o u)) H') : L2.Same H (upd H' d u) := fun b x e => by
  by_cases hb : b = d
  · subst hb
    rw [hd] at e
    rw [upd_same, e]
  · rw [upd_ne hb]
    exact s b x (by rw [upd_ne hb]; exact e)
theorem rd_held {H : Hp} {d n : Addr} {o : Obj} {u x : HO} (hn : n ≠ d) (h : Rd H n x) : Rd (upd H d (.frz o u)) n x := by
  rcases h with h | ⟨o', h⟩
  · exact .inl (by rw [upd_ne hn]; exact h)
  · exact .inr ⟨o', by rw [upd_ne hn]; exact h⟩
theorem upd_id {H : Hp} {d : Addr} {u : HO} (h : H d = some u) : upd H d u = H := by
  funext b
  by_cases hb : b = d
  · subst hb; rw [upd_same, h]
  · rw [upd_ne hb]
/-! ### while x: -/
section
variable {tb : TS} {σ : L2.St} {H : Hp} {n : L2.St → Hp → Prop} {r : VK} {b k : L2.St → Hp → Prop} {i : Nat}
/-- W m: what holds ahead of the test, m goes down -/
theorem lpWv (W : Nat → L2.St → Hp → Prop) {m : Nat} (h0 : W m σ H) (hs : ∀ m σ H, W m σ H → ∃ z, σ[i]? = some (some (.bl z)) ∧
    if z = true then tb ⟨fun σ' H' => ∃ m', m' < m ∧ W m' σ' H', r, n, fun σ' H' => ∃ m', m' < m ∧ W m' σ' H'⟩ σ H else n σ H) : tWhile (tTest (tVar i)) tb ⟨n, r, b, k⟩ σ H := by
  refine ⟨W, ⟨m, h0⟩, fun m σ H h => ?_⟩
  obtain ⟨z, hz, q⟩ := hs m σ H h
  refine ⟨.bl z, hz, z, rfl, ?_⟩
  cases z with
  | true => exact ⟨fun σ' H' => ∃ m', m' < m ∧ W m' σ' H', fun _ _ h => h, q⟩
  | false => exact q
end
end Ox

/-! Own layer, third part: name = {k: v for ..}. -/
namespace Ox
open PySem PySem.Spec PyProof.Rows L2
section
variable {X : Cx}
theorem sw_trueD {kx vx : Expr} {gs : List Comprehension} {scope : Scope} {pos py : Pos} {y : Str} {l : Nat} {env : Env} (hk : env.scope.kind = .function) (hy : env.scope.names.lookup y = some .local) (hl : (py.line == pos.line) = true)
    (ha : (scope.names.any fun (n, k) => n == y && (k == .local || k == .cell)) = false) : swapsWith (.DictComp kx vx gs scope pos) (some (.Name y py)) l env = pure true := by
  have k1 : env.kindOf y = some .local := hy
  have k2 : env.blockKind = .function := by unfold Env.blockKind; rw [hk]; rfl
  unfold swapsWith; simp only [k2, k1, ha, Expr.pos, hl]; rfl
theorem ps_setDc {i : Nat} {y : Str} {py : Pos} {kx vx tg iter : Expr} {ifs : List Expr} {scope : Scope} {own : List (Str × Nat)} {pos spos : Pos} {wi : TI} {g : TG} {tt : TT} {tk tv : TE} (hc : X.calm = true) (hN : X.N.Nodup) (hy : X.N[i]? = some y) (hyl : X.env.scope.names.lookup y = some .local)
    (hsw : swapsWith (.DictComp kx vx [⟨tg, iter, ifs, 0⟩] scope pos) (some (.Name y py)) spos.line X.env = pure true) (hi : PI X tg iter wi) (ok : BlkOk X.N X.env.scope scope own)
    (hg : ∀ (s : Shared) (H : Hp) (C : Addr) (cl : List (Str × Addr)) (fp : List Addr), PG (X.blk s H scope (compEnvC scope cl C X.env) fp) tg g) (htt : ∀ (s : Shared) (H : Hp) (C : Addr) (cl : List (Str × Addr)) (fp : List Addr), PTs (X.blk s H scope (compEnvC scope cl C X.env) fp) ifs tt)
    (hkx : ∀ (s : Shared) (H : Hp) (C : Addr) (cl : List (Str × Addr)) (fp : List Addr), PE (X.blk s H scope (compEnvC scope cl C X.env) fp) kx tk) (hvx : ∀ (s : Shared) (H : Hp) (C : Addr) (cl : List (Str × Addr)) (fp : List Addr), PE (X.blk s H scope (compEnvC scope cl C X.env) fp) vx tv)
    (hs : ∀ x, foldedSetIterable iter X.env x = pure x := by intro _; rfl) :
    PS X (.Assign [.Name y py] (.DictComp kx vx [⟨tg, iter, ifs, 0⟩] scope pos) spos) (tAsg (tDc wi g tt tk tv (own.map (·.2))) (gName i)) := by
  constructor; intro pins s σ H D I h; rw [exec_Assign_Name_used _ _ _ _ hsw]; refine wpAny_bind (wpAny_standAt (wpAny_bind ?_))
  show wpAny _ X.A (do let _ ← comprehension (.DictComp kx vx [⟨tg, iter, ifs, 0⟩] scope pos) scope X.env (firstIterPos [⟨tg, iter, ifs, 0⟩] pos) newDict false (eval iter X.env) (some (assign (.Name y py) X.env))) _ _ s
  have h2 : tDc wi g tt tk tv (own.map (·.2)) σ H (fun x H1 => gName i x σ H1 D.nx) := h
  refine wpAny_bind (thn (dc_core (Qf := fun _ s' => SP X pins D .next s') hc hN I hi ok hg htt hkx hvx hs h2 fun L C s' m H' I' q hn f => ?_) fun _ s' hq => wpAny_pure (wpAny_pure hq))
  show wpAny _ _ (assign (.Name y py) X.env (.ref L)) _ _ _
  refine wpAny_assign_Name (store_ok2 (v := V.ref L) I' hN hy (.inl hyl) rfl (fun s2 I2 ⟨a, sb, ha⟩ => ?_) (.inr hyl)); obtain ⟨f0, f1, f2, f3, f4, f5⟩ := f
  have haC : C ≠ a := by rcases ha with z | z; (· rw [z]; exact f1); (· exact fun e => f4 y a z e.symm)
  refine ⟨m, hn.sameBut sb haC, fun h3 sb3 => ⟨_, H', I2.turned (t' := s2.toks) (fun b o hb e => (sb3.2 b hb).trans e) f0 f1 f3 f4 f5, q⟩⟩
end
end Ox
namespace Ox
open PySem PySem.Spec PyProof.Rows L2
/-! ### sorted texts: one order -/
theorem nlt_trans : ∀ a b c : List Nat, ltCps b a = false → ltCps c b = false → ltCps c a = false
  | [], _, [], _, _ => rfl
  | [], [], _ :: _, _, _ => rfl
  | [], _ :: _, _ :: _, _, _ => rfl
  | _ :: _, [], _, h, _ => by cases h
  | _ :: _, _ :: _, [], _, h => by cases h
  | a :: r, b :: t, c :: u, h1, h2 => by
    have e1 : (decide (b < a) || (b == a && ltCps t r)) = false := h1
    have e2 : (decide (c < b) || (c == b && ltCps u t)) = false := h2
    show (decide (c < a) || (c == a && ltCps u r)) = false
    rw [Bool.or_eq_false_iff, decide_eq_false_iff_not] at e1 e2 ⊢
    refine ⟨by omega, ?_⟩
    by_cases h : c = a
    · have hb : b = a := by omega
      have hc : c = b := by omega
      have f1 := e1.2
      have f2 := e2.2
      rw [hb, beq_self_eq_true, Bool.true_and] at f1
      rw [hc, beq_self_eq_true, Bool.true_and] at f2
      rw [nlt_trans r t u f1 f2, Bool.and_false]
    · rw [beq_eq_false_iff_ne.mpr h, Bool.false_and]
theorem nlt_anti : ∀ a b : List Nat, ltCps b a = false → ltCps a b = false → a = b
  | [], [], _, _ => rfl
  | [], _ :: _, _, h => by cases h
  | _ :: _, [], h, _ => by cases h
  | a :: r, b :: t, h1, h2 => by
    have e1 : (decide (b < a) || (b == a && ltCps t r)) = false := h1
    have e2 : (decide (a < b) || (a == b && ltCps r t)) = false := h2
    rw [Bool.or_eq_false_iff, decide_eq_false_iff_not] at e1 e2
    have hb : b = a := by omega
    subst hb
    have f1 := e1.2
    have f2 := e2.2
    rw [beq_self_eq_true, Bool.true_and] at f1 f2
    rw [nlt_anti r t f1 f2]
abbrev LeS (a b : Str) : Prop := ltCps b.cps.toList a.cps.toList = false
theorem rising_pw : ∀ (p : Str) (l : List Str), risingS p l = true → (p :: l).Pairwise LeS
  | p, [], _ => List.pairwise_singleton _ _
  | p, x :: r, h => by
    have h1 : (!ltCps x.cps.toList p.cps.toList && risingS x r) = true := h
    rw [Bool.and_eq_true, Bool.not_eq_true'] at h1
    have ih := rising_pw x r h1.2
    refine List.pairwise_cons.mpr ⟨fun y hy => ?_, ih⟩
    rcases List.mem_cons.mp hy with e | hy
    · subst e
      exact h1.1
    · exact nlt_trans _ _ _ h1.1 ((List.pairwise_cons.mp ih).1 y hy)
theorem sorted_pw {l : List Str} (h : sortedS l = true) : l.Pairwise LeS := by
  cases l with
  | nil => exact .nil
  | cons x r => exact rising_pw x r h
theorem str_ext {a b : Str} (h : a.cps.toList = b.cps.toList) : a = b := by
  cases a with
  | mk a =>
    cases b with
    | mk b =>
      have e : a = b := Array.toList_inj.mp h
      rw [e]
theorem sorted_one {l l' : List Str} (h : sortedS l = true) (h' : sortedS l' = true) (p : l.Perm l') : l = l' :=
  List.Perm.eq_of_pairwise (le := LeS) (fun a b _ _ h1 h2 => str_ext (nlt_anti _ _ h1 h2)) (sorted_pw h) (sorted_pw h') p
/-! ### a heap without one place -/
def wo (H : Hp) (a : Addr) : Hp := fun b => if b = a then none else H b
theorem wo_at {H : Hp} {a : Addr} : wo H a a = none := if_pos rfl
theorem wo_ne {H : Hp} {a b : Addr} (h : b ≠ a) : wo H a b = H b := if_neg h
theorem wo_same {H : Hp} {a : Addr} : L2.Same (wo H a) H := fun b o e => by
  by_cases h : b = a
  · subst h
    rw [wo_at] at e
    cases e
  · rw [wo_ne h] at e
    exact e
theorem wo_mono {H H' : Hp} {a : Addr} (s : L2.Same H H') : L2.Same (wo H a) (wo H' a) := fun b o e => by
  by_cases h : b = a
  · subst h
    rw [wo_at] at e
    cases e
  · rw [wo_ne h] at e ⊢
    exact s b o e
theorem wo_upd {H : Hp} {a : Addr} {u : HO} : wo (upd H a u) a = wo H a := by
  funext b
  by_cases h : b = a
  · subst h
    rw [wo_at, wo_at]
  · rw [wo_ne h, wo_ne h, upd_ne h]
theorem same_wo {H H' : Hp} {a : Addr} {u : HO} (s : L2.Same H H') : L2.Same (wo H a) (upd H' a u) := same_upd (wo_same.trans s) wo_at
theorem len_put {f : Str} {v : V} {fs : List (Str × V)} {k : Nat} (h : fs.length < k) : (putF f v fs).length < k + 1 := Nat.lt_of_le_of_lt (length_putF _ _ _) (Nat.succ_lt_succ h)
end Ox
namespace Ox
open PySem PySem.Spec PyProof.Rows L2
/-! ### slices -/
def rPartA (x : V) (H : Hp) (R : Option Int → Hp → Prop) : Prop := ∃ i, x = .int i ∧ R (some i) H
section
variable {σ : L2.St} {H : Hp} {Q : VK} {te : TE} {tl th : TO} {K : PySem.W.Frag} {R : Option Int → Hp → Prop}
theorem x_sl {r : V → Option Int → Option Int → Hp → VK → Prop} (h : te σ H fun x H1 => tl σ H1 fun l H2 => th σ H2 fun u H3 => r x l u H3 Q) : tSl r te tl th σ H Q := h
theorem x_nopart (h : R none H) : tNoPart σ H R := h
theorem x_part (h : te σ H fun x H1 => rPartA x H1 R) : tPart te σ H R := h
theorem x_parti {i : Int} (h : R (some i) H) : rPartA (.int i) H R := ⟨i, rfl, h⟩
theorem x_slL {p : Addr} {xs : List V} {lo hi : Option Int} (h : SqL K H p xs) (q : ∀ l, H l = none → Q (.ref l) (upd H l (.lst (cutV xs lo hi)))) : rSlL K (.ref p) lo hi H Q := ⟨p, xs, rfl, h, q⟩
theorem cut_from {xs : List V} {lo : Int} (h0 : 0 ≤ lo) (h1 : lo ≤ xs.length) : cutV xs (some lo) none = xs.drop lo.toNat := by
  obtain ⟨k, rfl⟩ : ∃ k : Nat, lo = (k : Int) := ⟨lo.toNat, by omega⟩
  unfold cutV
  rw [HT.sIx_nat, HT.sIx_none, Int.toNat_natCast]
  have hk : min k xs.length = k := by omega
  rw [hk]
  exact List.take_of_length_le (by rw [List.length_drop]; omega)
theorem cut_to {xs : List V} {hi : Int} (h0 : 0 ≤ hi) (h1 : hi ≤ xs.length) : cutV xs none (some hi) = xs.take hi.toNat := by
  obtain ⟨k, rfl⟩ : ∃ k : Nat, hi = (k : Int) := ⟨hi.toNat, by omega⟩
  unfold cutV
  rw [HT.sIx_nat, HT.sIx_none, Int.toNat_natCast]
  have hk : min k xs.length = k := by omega
  rw [hk]
  rfl
end
/-! ### a list of whole numbers, asked at a place -/
theorem pickI (L : List Int) {j : Int} (h0 : 0 ≤ j) (h1 : j < L.length) : ∃ g, (L.map V.int)[j.toNat]? = some (.int g) ∧ g ∈ L := by
  have hlt : j.toNat < L.length := by omega
  refine ⟨L[j.toNat], ?_, List.getElem_mem hlt⟩
  rw [List.getElem?_map, List.getElem?_eq_getElem hlt]
  rfl
theorem pickS (L : List Str) {j : Int} (h0 : 0 ≤ j) (h1 : j < L.length) : ∃ g, (L.map V.str)[j.toNat]? = some (.str g) ∧ L[j.toNat]? = some g := by
  have hlt : j.toNat < L.length := by omega
  refine ⟨L[j.toNat], ?_, List.getElem?_eq_getElem hlt⟩
  rw [List.getElem?_map, List.getElem?_eq_getElem hlt]
  rfl
/-! ### stores, asked again -/
theorem lookup_putL {α : Type} (l : List (Str × α)) (z : Str) (x : α) (y : Str) : (putL l z x).lookup y = if y = z then some x else l.lookup y := by
  by_cases hz : z ∈ l.map (·.1)
  · rw [putL_old x hz]
    have key : ∀ l : List (Str × α), (l.map fun p => if p.1 = z then (p.1, x) else p).lookup y = if y = z then (if z ∈ l.map (·.1) then some x else none) else l.lookup y := by
      intro l
      induction l with
      | nil => by_cases e : y = z <;> simp [e]
      | cons p r ih =>
        rw [List.map_cons, List.lookup_cons, List.lookup_cons, ih]
        by_cases ep : p.1 = z
        · rw [if_pos ep]
          by_cases e : y = z
          · have : (y == p.1) = true := by rw [e, ep]; exact beq_self_eq_true z
            simp [e, ep]
          · have : (y == p.1) = false := by rw [ep]; exact beq_eq_false_iff_ne.mpr e
            simp [e, this]
        · rw [if_neg ep]
          by_cases e : y = z
          · have h2 : (y == p.1) = false := by rw [e]; exact beq_eq_false_iff_ne.mpr fun q => ep q.symm
            have h3 : (z ∈ (p :: r).map (·.1)) ↔ z ∈ r.map (·.1) := by
              rw [List.map_cons, List.mem_cons]
              exact ⟨fun h => h.resolve_left fun q => ep q.symm, .inr⟩
            rw [h2]
            simp only [e, if_true]
            by_cases h4 : z ∈ r.map (·.1)
            · rw [if_pos h4, if_pos (h3.mpr h4)]
            · rw [if_neg h4, if_neg fun q => h4 (h3.mp q)]
          · simp only [e, if_false]
    rw [key l, if_pos hz]
  · rw [putL_new x hz, List.lookup_append]
    by_cases e : y = z
    · rw [if_pos e, e, lookup_none hz]
      simp
    · rw [if_neg e]
      cases hl : l.lookup y with
      | some v => rfl
      | none =>
        have e2 : (y == z) = false := beq_eq_false_iff_ne.mpr e
        simp [List.lookup, e2]
theorem putL_keys2 {α β : Type} {l : List (Str × α)} {m : List (Str × β)} (h : m.map (·.1) = l.map (·.1)) (z : Str) (x : α) (y : β) : (putL m z y).map (·.1) = (putL l z x).map (·.1) := by
  by_cases hz : z ∈ l.map (·.1)
  · rw [putL_keys x hz, putL_keys y (by rw [h]; exact hz), h]
  · rw [putL_new x hz, putL_new y (by rw [h]; exact hz), List.map_append, List.map_append, h]
    rfl
theorem putL_pos {α : Type} (l : List (Str × α)) (z : Str) (x : α) : 1 ≤ (putL l z x).length := by
  by_cases hz : z ∈ l.map (·.1)
  · rw [putL_old x hz, List.length_map]
    cases l with
    | nil => cases hz
    | cons p r => exact Nat.succ_le_succ (Nat.zero_le _)
  · rw [putL_new x hz, List.length_append]
    exact Nat.le_add_left _ _
/-! ### heaps without the pool -/
theorem but_wo {p : Addr} {H H' : Hp} (b : But p H H') : L2.Same (wo H p) (wo H' p) := fun x o e => by
  by_cases h : x = p
  · subst h
    rw [wo_at] at e
    cases e
  · rw [wo_ne h] at e ⊢
    exact b x o e h
theorem wo_upd_ne {H : Hp} {p D : Addr} {u : HO} (h : D ≠ p) : wo (upd H D u) p = upd (wo H p) D u := by
  funext b
  by_cases e : b = p
  · subst e
    rw [wo_at, upd_ne (Ne.symm h), wo_at]
  · rw [wo_ne e]
    by_cases e2 : b = D
    · subst e2
      rw [upd_same, upd_same]
    · rw [upd_ne e2, upd_ne e2, wo_ne e]
theorem wo_none {H : Hp} {p a : Addr} (h : H a = none) : wo H p a = none := by
  by_cases e : a = p
  · rw [e]; exact wo_at
  · rw [wo_ne e]; exact h
theorem wo_some {H : Hp} {p a : Addr} {o : HO} (h : wo H p a = some o) : H a = some o ∧ a ≠ p := by
  by_cases e : a = p
  · rw [e, wo_at] at h
    cases h
  · rw [wo_ne e] at h
    exact ⟨h, e⟩
end Ox
namespace Ox
open PySem PySem.Spec PyProof.Rows L2
theorem same_made {H H1 H' : Hp} {x dx C : Addr} (s : L2.Same H H1) (nx : H1 x = none) (nd : H1 dx = none) (k : ∀ b o, (upd (upd H1 dx (.own x)) x (.ins C dx [])) b = some o → b ≠ x → H' b = some o) : L2.Same H H' := fun b o e => by
  have e1 := s b o e
  exact k b o (by rw [upd_ne (ne_of_none e1 nx), upd_ne (ne_of_none e1 nd)]; exact e1) (ne_of_none e1 nx)
end Ox

/-! Own layer, fourth part: enumerate(row), the row a list or a tuple. -/
namespace Ox
open PySem PySem.Spec PyProof.Rows L2
theorem meets_enum1 {v : Value} {o : Obj} {Hh : Heap → Prop} (B : Begins v o Hh) :
    Meets (Builtin.«enumerate.__new__» ⟨[.type "enumerate", v], []⟩) (fun _ R s => Hh s.heap ∧
      R (.ok (.ret (.ref (s.heap.push o).objs.size))) { s with heap := (s.heap.push o).push { cls := .type "enumerate", data := .fields #[.none, .bool false, .ref s.heap.objs.size, rawInt 0, .none, .none] } }) :=
  .of_wp fun prog w A R s h => by
    obtain ⟨hp, gs, dr, tk, os⟩ := s
    obtain ⟨h1, h2⟩ := h
    have hsub := sub_enumerate
    have q1 : ∀ {A' : Around} {E : Value → Shared → Prop} {Q : Value → Shared → Prop}, Q (.ref hp.objs.size) ⟨hp.push o, gs, dr, tk, os⟩ → wpAny (model prog w) A' (pyIter v) Q E ⟨hp, gs, dr, tk, os⟩ := fun q => B.iter prog w _ _ ⟨hp, gs, dr, tk, os⟩ _ h1 q
    wp_walk using q1
    refine wpAny_stack_any fun st => wpAny_pure ?_
    split
    · rename_i c _ _ _ _ _
      cases (c == Value.type "enumerate") <;> (wp_walk using q1; exact ⟨_, rfl, h2⟩)
    · wp_walk using q1; exact ⟨_, rfl, h2⟩
section
variable {prog : Program} {w : World} {A : Around} {E : Value → Shared → Prop} {s : Shared}
theorem enum1_begins {v : Value} {o : Obj} {Hh : Heap → Prop} {Q : Value → Shared → Prop} (B : Begins v o Hh) (h1 : Hh s.heap)
    (h : ∀ h', IsEnum h' (s.heap.objs.size + 1) s.heap.objs.size 0 .none → h'.get? s.heap.objs.size = some o → h'.objs.size = s.heap.objs.size + 2 → (∀ b o, s.heap.get? b = some o → h'.get? b = some o) → Q (.ref (s.heap.objs.size + 1)) { s with heap := h' }) :
    wpAny (model prog w) A (call (.type "enumerate") [v]) Q E s := by
  refine callType_new F.called_enumerate (by decide) (F.typeCall_enumerate_1 _) (F.newCall_enumerate_1 _) (fun obj => F.args_object_init_2 obj _) F.entry_enumerate_new (meets_enum1 B) ⟨h1, ?_⟩
  have hz : (s.heap.push o).objs.size = s.heap.objs.size + 1 := Heap.size_push ..
  show _ ∧ _
  rw [hz]
  have he : IsEnum ((s.heap.push o).push { cls := .type "enumerate", data := .fields #[.none, .bool false, .ref s.heap.objs.size, rawInt 0, .none, .none] }) (s.heap.objs.size + 1) s.heap.objs.size 0 .none := by
    have e := Heap.get?_push_size (s.heap.push o) (o := { cls := .type "enumerate", data := .fields #[.none, .bool false, .ref s.heap.objs.size, rawInt 0, .none, .none] }) rfl
    rw [hz] at e; exact e
  refine ⟨⟨_, he, rfl⟩, h _ he (Heap.get?_push_of_some _ (Heap.get?_push_size _ B.free)) (by rw [Heap.size_push, hz]) ?_⟩
  exact fun b ob x => Heap.get?_push_of_some _ (Heap.get?_push_of_some _ x)
end
/-- the tuple at a as it stands at each turn, each item in a new pair -/
def IteT (K : PySem.W.Frag) (a : Addr) : It :=
  ⟨fun i H => ∃ (xs : List V) (x : V), SqT K H a xs ∧ xs[i]? = some x, fun i H v H' => ∃ T x, v = .ref T ∧ H T = none ∧ H' = upd H T (.tup [.int (i : Nat), x]) ∧ ∀ xs, SqT K H a xs → xs[i]? = some x, fun i H => ∃ xs : List V, SqT K H a xs ∧ xs.length = i⟩
theorem turn_enumT {P : Program} {w : World} {K : PySem.W.Frag} {elts : List Expr} {kk : Nat} {tpos : Pos} (a e it : Addr) :
    Turn P w K (.Tuple elts kk tpos) (IteT K a) [e, it] e (fun i h => (∃ old, IsEnum h e it ((i : Nat) : Int) old) ∧ h.IsTupleIter it a i ∧ e ≠ it) where
  mem := by simp
  obj := fun i h st b hb => by
    obtain ⟨⟨old, he⟩, ⟨o, ho, hc, hd⟩, _⟩ := st
    rcases (show b = e ∨ b = it by simpa using hb) with z | z <;> rw [z]
    · exact ⟨_, he, fun v q => nomatch q⟩
    · exact ⟨o, ho, fun v q => by rw [hd] at q; cases q⟩
  keep := fun i h h' st k => ⟨st.1.imp fun old he => k e (by simp) _ he, st.2.1.at fun o q => k it (by simp) o q, st.2.2⟩
  item := by
    intro X hP hw hK hc i pins s σ H E I hf st hg; subst hP hw hK
    obtain ⟨⟨old, he⟩, hit, hne⟩ := st; obtain ⟨xs, x, hq, hx⟩ := hg
    obtain ⟨its, rv, p, hz⟩ := I.tuple hq
    have hT0 : s.heap.IsTuple a its.toArray := p
    obtain ⟨u, hu, ru⟩ := rv.get hx
    have hel : e < s.heap.objs.size := Heap.lt_size he
    have hil : it < s.heap.objs.size := by obtain ⟨_, q, _⟩ := hit; exact Heap.lt_size q
    have hai : a ≠ it := fun z => by
      obtain ⟨o1, q1, c1, _⟩ := hit; obtain ⟨o2, q2, c2, _⟩ := hT0
      rw [z, q1] at q2; cases q2; rw [c1] at c2; injection c2 with c3; exact absurd c3 (by decide)
    have hea : e ≠ a := fun z => by
      obtain ⟨o2, q2, c2, _⟩ := hT0
      rw [← z, show s.heap.get? e = _ from he] at q2; cases q2; injection c2 with c3; exact absurd c3 (by decide)
    have hh : X.A.in1.handled = none := I.ok.hd hc
    have hlt : i < its.toArray.size := by
      have := (List.getElem?_eq_some_iff.mp hu).1
      simpa using this
    refine wpAny_pyNext_enum_itemD (Draws.tuple hh it a hai its.toArray) he ⟨hit, hT0⟩ hlt hne (by simp [hne, hea]) fun y h' tk hy ho hst' hT hsz hk => ?_
    have ey : y = u := by
      have e1 : its.toArray[i]? = some u := by simpa using hu
      rw [e1] at hy
      exact (Option.some.inj hy).symm
    subst ey
    refine ⟨_, rfl, wpAny_letOwnedTupleGo_enum (s := { s with heap := h', toks := tk + 1 }) ho fun h'' he' sb => ?_⟩
    have hT2 : h''.get? s.heap.objs.size = some { cls := .type "tuple", data := .seq #[.int i tk, y] } := (sb.2 _ (Nat.ne_of_gt hel)).trans hT
    have new : ObjOk X.prog X.w (upd H s.heap.objs.size (.tup [.int (i : Nat), x])) h'' s.heap.objs.size (.tup [.int (i : Nat), x]) := ⟨by show 2 ≤ sizeLine; decide, [.int i tk, y], .cons ⟨_, rfl⟩ (.cons ru .nil), ⟨_, hT2, rfl, _, rfl⟩⟩
    have I1 : Inv X pins σ (upd H s.heap.objs.size (.tup [.int (i : Nat), x])) { s with heap := h'', toks := tk + 1 } :=
      I.turnedNew (ch := [e, it]) (fun b ob hb q => (sb.2 b (fun z => hb (by rw [z]; simp))).trans (hk b ob (fun z => hb (by rw [z]; simp)) (fun z => hb (by rw [z]; simp)) q)) hf (Nat.le_refl _) new
    refine ⟨.ref s.heap.objs.size, _, I1, rfl, ⟨_, x, rfl, I.hok.fresh (Nat.le_refl _), rfl, fun ys hy => by rw [I.tuple_inj hy hq]; exact hx⟩, ⟨⟨y, ?_⟩, hst'.1.at fun o q => (sb.2 it (Ne.symm hne)).trans q, hne⟩, fun b hb => ?_⟩
    · rw [show ((i + 1 : Nat) : Int) = (i : Int) + 1 by omega]; exact he'
    · have hb' : b < s.heap.objs.size := by rcases (show b = e ∨ b = it by simpa using hb) with z | z <;> (rw [z]; assumption)
      rw [upd_ne (Nat.ne_of_lt hb')]; exact (hf b hb).1
  done := by
    intro X hP hw hK hc i pins s σ H E I hf st hg; subst hP hw hK
    obtain ⟨⟨old, he⟩, hit, hne⟩ := st; obtain ⟨xs, hq, hx⟩ := hg
    obtain ⟨its, rv, p, hz⟩ := I.tuple hq
    have hT0 : s.heap.IsTuple a its.toArray := p
    obtain ⟨f0, f1, f2, f3, f4, f5⟩ := hf it (by simp)
    have hai : a ≠ it := fun z => by
      obtain ⟨o1, q1, c1, _⟩ := hit; obtain ⟨o2, q2, c2, _⟩ := hT0
      rw [z, q1] at q2; cases q2; rw [c1] at c2; injection c2 with c3; exact absurd c3 (by decide)
    have hh : X.A.in1.handled = none := I.ok.hd hc
    have hl := rv.length
    have hea : e ≠ a := fun z => by
      obtain ⟨o2, q2, c2, _⟩ := hT0
      rw [← z, show s.heap.get? e = _ from he] at q2; cases q2; injection c2 with c3; exact absurd c3 (by decide)
    have hn : its.toArray.size = i := by simp; omega
    subst hn
    exact wpAny_pyNext_enum_endD (Draws.tuple hh it a hai its.toArray) he ⟨hit, hT0⟩ fun h' eb => ⟨rfl, I.turned (t' := s.toks) (fun b o hb q => eb b o hb q) f0 f1 f3 f4 f5⟩
  self := fun A i s Q E st h => st.1.elim fun old he => wpAny_pyIter_enum he h
def iEnumT (K : PySem.W.Frag) (ta : TA) : TI := fun σ H R => ta σ H fun vs H1 => ∃ a xs, vs = [.ref a] ∧ ((SqL K H1 a xs ∧ R (Ite K a) H1) ∨ (SqT K H1 a xs ∧ R (IteT K a) H1))
theorem pi_enumT {X : Cx} {e : Expr} {ta : TA} {p pos tpos : Pos} {elts : List Expr} {kk : Nat} (hg : Gl X "enumerate") (hm : X.mg "enumerate" = none) (ha : PA X [e] ta) (hs : starEach [e] X.env = [(false, eval e X.env)] := by rfl) :
    PI X (.Tuple elts kk tpos) (.Call (.Name "enumerate" p) [e] [] pos) (iEnumT X.K ta) := by
  constructor; intro pins s σ H R I h
  refine Call_ (ld_blt I hg hm boot_enumerate (PyProof.Rows.callWith_type1 (thn (ha.run pos pins s σ H _ I h) fun us s1 ⟨vs, H1, I1, r1, q1⟩ => ?_) hs rfl))
  obtain ⟨a, xs, ex, hq⟩ := q1; subst ex
  obtain ⟨u, rfl, ru⟩ := vals1 r1
  cases ru
  have fresh : ∀ b, b = s1.heap.objs.size + 1 ∨ b = s1.heap.objs.size → FpOk X pins H1 b := fun b hb => by
    have hle : s1.heap.objs.size ≤ b := by rcases hb with z | z <;> rw [z] <;> omega
    exact I1.fpOk hle (I1.hok.fresh hle)
  rcases hq with ⟨hq, q⟩ | ⟨hq, q⟩
  · obtain ⟨its, rv, p', hz⟩ := I1.list hq
    refine call_enumerate_list p'.isList fun h' he hit hsz hk => wpAny_pyIter_enum he ⟨s1.heap.objs.size + 1, [s1.heap.objs.size + 1, s1.heap.objs.size], _, _, H1, rfl, I1.kept (t' := s1.toks) hk, turn_enum a (s1.heap.objs.size + 1) s1.heap.objs.size, ⟨⟨.none, he⟩, hit, Nat.succ_ne_self _⟩, fun b hb => fresh b (by simpa using hb), q⟩
  · obtain ⟨its, rv, p', hz⟩ := I1.tuple hq
    refine enum1_begins (begins_tuple a its.toArray) p' fun h' he hit hsz hk => wpAny_pyIter_enum he ⟨s1.heap.objs.size + 1, [s1.heap.objs.size + 1, s1.heap.objs.size], _, _, H1, rfl, I1.kept (t' := s1.toks) hk, turn_enumT a (s1.heap.objs.size + 1) s1.heap.objs.size, ⟨⟨.none, he⟩, ⟨_, hit, rfl, rfl⟩, Nat.succ_ne_self _⟩, fun b hb => fresh b (by simpa using hb), q⟩
/-! ### the loop over it -/
def LpE (K : PySem.W.Frag) (g : TG) (tb : TS) (D : Ends) (σ : L2.St) (vs : List V) (H : Hp) : Prop := ∃ a xs, vs = [.ref a] ∧ ((SqL K H a xs ∧ Lp (Ite K a) g tb D σ H) ∨ (SqT K H a xs ∧ Lp (IteT K a) g tb D σ H))
section
variable {σ : L2.St} {H : Hp} {n : L2.St → Hp → Prop} {r : VK} {b c : L2.St → Hp → Prop} {tb : TS} {g : TG} {K : PySem.W.Frag} {al : TA} {p : Addr}
theorem x_forE (h : al σ H fun x H1 => LpE K g tb ⟨n, r, b, c⟩ σ x H1) : tFor (iEnumT K al) g tb ⟨n, r, b, c⟩ σ H := h
/-- a list or a tuple -/
def SqR (K : PySem.W.Frag) (H : Hp) (a : Addr) (xs : List V) : Prop := SqL K H a xs ∨ SqT K H a xs
theorem lpE {xs : List V} (Pv : Nat → L2.St → Hp → Prop) (h : (∀ σ' H' i, i ≤ xs.length → Pv i σ' H' → SqL K H' p xs) ∨ (∀ σ' H' i, i ≤ xs.length → Pv i σ' H' → SqT K H' p xs)) (h0 : Pv 0 σ H)
    (hs : ∀ i x σ H T, xs[i]? = some x → Pv i σ H → H T = none → g (.ref T) σ (upd H T (.tup [.int (i : Nat), x])) fun σ2 H2 => tb ⟨Pv (i + 1), r, n, Pv (i + 1)⟩ σ2 H2) (hd : ∀ σ H, Pv xs.length σ H → n σ H) : LpE K g tb ⟨n, r, b, c⟩ σ [.ref p] H := by
  rcases h with h | h
  · refine ⟨p, xs, rfl, .inl ⟨h σ H 0 (Nat.zero_le _) h0, fun i k σ H => k = xs.length - i ∧ i ≤ xs.length ∧ Pv i σ H, ⟨_, rfl, Nat.zero_le _, h0⟩, ?_⟩⟩
    rintro i k σ1 H1 ⟨rfl, hi, hp⟩
    have q := h σ1 H1 i hi hp
    by_cases hlt : i < xs.length
    · refine .inr ⟨⟨xs, xs[i], q, by simp [hlt]⟩, Pv (i + 1), fun σ' H' p' => ⟨xs.length - (i + 1), by omega, rfl, hlt, p'⟩, fun x H' y => ?_⟩
      obtain ⟨T, v, rfl, hT, rfl, hv⟩ := y
      exact hs i v σ1 H1 T (hv xs q) hp hT
    · have e : i = xs.length := by omega
      subst e
      exact .inl ⟨⟨xs, q, Nat.le_refl _⟩, hd σ1 H1 hp⟩
  · refine ⟨p, xs, rfl, .inr ⟨h σ H 0 (Nat.zero_le _) h0, fun i k σ H => k = xs.length - i ∧ i ≤ xs.length ∧ Pv i σ H, ⟨_, rfl, Nat.zero_le _, h0⟩, ?_⟩⟩
    rintro i k σ1 H1 ⟨rfl, hi, hp⟩
    have q := h σ1 H1 i hi hp
    by_cases hlt : i < xs.length
    · refine .inr ⟨⟨xs, xs[i], q, by simp [hlt]⟩, Pv (i + 1), fun σ' H' p' => ⟨xs.length - (i + 1), by omega, rfl, hlt, p'⟩, fun x H' y => ?_⟩
      obtain ⟨T, v, rfl, hT2, rfl, hv⟩ := y
      exact hs i v σ1 H1 T (hv xs q) hp hT2
    · have e : i = xs.length := by omega
      subst e
      exact .inl ⟨⟨xs, q, rfl⟩, hd σ1 H1 hp⟩
end
end Ox
namespace Ox
open PySem PySem.Spec PyProof.Rows L2
/-! ### methods -/
section
variable {X : Cx} {k : Nat} {C : Addr} {m : Str} {ps : List Str} {sp : Sp} {o e : Expr} {es : List Expr} {ta : TE} {t : TA} {apos pos : Pos} {pl : Sem Bool}
theorem pe_mt (M : Met X.prog X.w X.K X.mg X.base C k m ps sp) (kc : Cls X.K C) (hr : Room k X.A) (he : PE X o ta) (ha : PA X (e :: es) t)
    (hst : starEach (e :: es) X.env = (false, eval e X.env) :: starEach es X.env := by rfl) (hpl : (backTo pos (starEach es X.env)).any (·.1) = false := by rfl)
    (ht : eval (.Call (.Attribute o m apos) (e :: es) [] pos) X.env = (do let ov ← eval o X.env; standAt apos.atName; let (f, first) ← holding [ov] (getMethod ov m pl); callWith pos f first (backTo pos (starEach (e :: es) X.env)) (backToKw pos (keywordEach [] X.env))) := by rfl) :
    PE X (.Call (.Attribute o m apos) (e :: es) [] pos) (tMeth C m sp [] E0 ta t) := by
  obtain ⟨f, fd, mt, F, hb⟩ := M.ex
  exact pe_meth he kc mt F hr hb .nil pass0 ha hst hpl ht
end
def rMtA (C : Addr) (m : Str) (x : V) (H : Hp) (Z : Prop) : Prop := ∃ a dx fs, x = .ref a ∧ H a = some (.ins C dx fs) ∧ fs.lookup m = none ∧ Z
section
variable {σ : L2.St} {H : Hp} {Q : VK} {ta : TE} {al : TA} {C : Addr} {m : Str} {sp : Sp} {K : PySem.W.Frag}
theorem x_mt (h : ta σ H fun x H1 => rMtA C m x H1 (al σ H1 fun vs H2 => sp (x :: vs) H2 Q E0)) : tMeth C m sp [] E0 ta al σ H Q := by
  show ta σ H fun x H1 => ∃ a dx fs, x = .ref a ∧ H1 a = some (.ins C dx fs) ∧ fs.lookup m = none ∧ al σ H1 fun vs H2 => sp (x :: (vs ++ [])) H2 Q E0
  have e : (fun (x : V) (H1 : Hp) => ∃ a dx fs, x = .ref a ∧ H1 a = some (.ins C dx fs) ∧ fs.lookup m = none ∧ al σ H1 fun vs H2 => sp (x :: (vs ++ [])) H2 Q E0) = fun x H1 => rMtA C m x H1 (al σ H1 fun vs H2 => sp (x :: vs) H2 Q E0) := by
    funext x H1
    have e2 : (fun (vs : List V) (H2 : Hp) => sp (x :: (vs ++ [])) H2 Q E0) = fun vs H2 => sp (x :: vs) H2 Q E0 := by
      funext vs H2
      rw [List.append_nil]
    rw [e2]
    rfl
  rw [e]
  exact h
theorem x_mti {a dx : Addr} {fs : List (Str × V)} {Z : Prop} (h : H a = some (.ins C dx fs)) (hl : fs.lookup m = none) (q : Z) : rMtA C m (.ref a) H Z := ⟨a, dx, fs, rfl, h, hl, q⟩
/-! ### isinstance(x, (list, tuple)) -/
theorem x_isiLT {x : V} {k : Kn} {tp : Addr} (h : Kd K H x k) (ht : H tp = some (.tup [.ty "list", .ty "tuple"])) (q : Q (.bl (isB k .lst || isB k .tup)) H) : rIsiT K [x, .ref tp] H Q := by
  refine ⟨x, tp, _, _, _, _, rfl, ht, .cons (.ty "list") (.cons (.ty "tuple") .nil), h.tyx, ?_, q⟩
  cases k <;> rfl
end
/-! ### x[i], x a list or a tuple -/
def rIxQ (K : PySem.W.Frag) : R2 := fun x y H Q => rIxL K x y H Q ∨ rIxT K x y H Q
theorem ix_seq {X : Cx} : IxR X (rIxQ X.K) := fun a b pins s σ H x y v u Q I rx ry h hs => h.elim (fun h => ix_list a b pins s σ H x y v u Q I rx ry h hs) fun h => ix_tup a b pins s σ H x y v u Q I rx ry h hs
theorem ix_seqK {X : Cx} {K : PySem.W.Frag} (e : X.K = K := by rfl) : IxR X (rIxQ K) := e ▸ ix_seq
theorem x_ixq {K : PySem.W.Frag} {H : Hp} {Q : VK} {p : Addr} {xs : List V} {k : Int} {v : V} (j : Nat) (h : SqR K H p xs) (hk : k = (j : Int)) (ha : xs[j]? = some v) (q : Q v H) : rIxQ K (.ref p) (.int k) H Q :=
  h.elim (fun h => .inl (x_ixl j h hk ha q)) fun h => .inr (x_ixt j h hk ha q)
theorem x_lenQ {K : PySem.W.Frag} {H : Hp} {Q : VK} {p : Addr} {xs : List V} (h : SqR K H p xs) (q : Q (.int xs.length) H) : rLenA K [V.ref p] H Q := h.elim (fun h => x_lenL h q) fun h => x_lenT h q
theorem x_listQ {K : PySem.W.Frag} {H : Hp} {Q : VK} {p : Addr} {xs : List V} (h : SqR K H p xs) (q : ∀ l, H l = none → Q (.ref l) (upd H l (.lst xs))) : rListA K [V.ref p] H Q := h.elim (fun h => x_listL h q) fun h => x_listT h q
end Ox

namespace Ox
open PySem PySem.Spec PyProof.Rows L2
/-! sorted(d, reverse=True), d a dict with text keys: a permutation of its keys -/
def codesOf : Value → List Nat
  | .str z _ => z.cps.toList
  | _ => []
def textOf : Value → Str
  | .str z _ => z
  | _ => ""
def ltCodes (v u : Value) : Bool := decide (codesOf v < codesOf u)
theorem swo_codes : SrtO.Swo ltCodes := by
  refine ⟨fun x y h => ?_, fun x y z h1 h2 => ?_⟩
  · exact decide_eq_false (List.lt_asymm (of_decide_eq_true (p := codesOf x < codesOf y) h))
  · have a := of_decide_eq_false (p := codesOf y < codesOf x) h1
    have b := of_decide_eq_false (p := codesOf z < codesOf y) h2
    exact decide_eq_false (p := codesOf z < codesOf x) (List.not_lt.mpr (List.le_trans (List.not_lt.mp a) (List.not_lt.mp b)))
theorem texts_in : ∀ {vs : List Value} {ks : List Str}, StrsAre vs ks → ∀ v ∈ vs, ∃ z t, v = Value.str z t := by
  intro vs ks h
  induction h with
  | nil => exact fun v hv => by cases hv
  | cons z t _ ih =>
    intro v hv
    rcases List.mem_cons.mp hv with rfl | hv
    · exact ⟨z, t, rfl⟩
    · exact ih v hv
theorem texts_of : ∀ {vs : List Value} {ks : List Str}, StrsAre vs ks → vs.map textOf = ks := by
  intro vs ks h
  induction h with
  | nil => rfl
  | cons z t _ ih =>
    rw [List.map_cons, ih]
    rfl
theorem texts_are : ∀ {vs : List Value}, (∀ v ∈ vs, ∃ z t, v = Value.str z t) → StrsAre vs (vs.map textOf) := by
  intro vs
  induction vs with
  | nil => exact fun _ => .nil
  | cons v r ih =>
    intro h
    obtain ⟨z, t, rfl⟩ := h v List.mem_cons_self
    exact .cons z t (ih fun u hu => h u (List.mem_cons_of_mem _ hu))
theorem texts_sortable {prog : Program} {w : World} {A : Around} {s : Shared} {a : Addr} {vs : List Value} {ks : List Str} (hT : StrsAre vs ks) (h2 : 2 ≤ vs.length) : SrtO.SortableO prog w A s a vs ltCodes := by
  intro h1 _
  refine ⟨oneType', fun Q E hq => ?_, fun p q hp hq => ?_⟩
  · obtain ⟨v1, v2, rest, rfl⟩ : ∃ v1 v2 rest, vs = v1 :: v2 :: rest := by
      cases vs with
      | nil => simp at h2
      | cons v1 r =>
        cases r with
        | nil => simp at h2
        | cons v2 r => exact ⟨v1, v2, r, rfl⟩
    rw [keyKind_strs hT]
    exact wpAny_pure hq
  · obtain ⟨x, t, ex⟩ := texts_in hT _ hp
    obtain ⟨y, u, ey⟩ := texts_in hT _ hq
    change wpAny (model prog w) A (keyLt' oneType' p.1 q.1) (fun r s1 => s1 = _ ∧ r = ltCodes p.1 q.1) (fun _ _ => False) _
    rw [ex, ey, keyLt'_oneType]
    exact oneLt_str ⟨rfl, rfl⟩
def rSortRev : List V → List V → Hp → VK → Prop := fun xs zs H Q => ∃ (d : Addr) (kvs : List (Key × V)) (ks : List Str), xs = [.ref d] ∧ zs = [.bl true] ∧ Rd H d (.dK kvs) ∧ kvs.map (·.1) = ks.map Sum.inr ∧ ks.length ≤ 10000 ∧
  ∀ (ys : List Str) (p : Addr), ys.Perm ks → H p = none → Q (.ref p) (upd H p (.lst (ys.map V.str)))
theorem call_sortRev {X : Cx} (calm : X.calm = true) : CallRK X (.builtin "sorted") [Str.ofString "reverse"] rSortRev := by
  intro pn st σ H args kws us ws Q I ra rk hq
  obtain ⟨d, kvs, ks, rfl, rfl, rd, ek, len, fin⟩ := hq
  obtain ⟨ud, rfl, rud⟩ := vals1 ra
  cases rud
  obtain ⟨w1, rfl, e1⟩ := vals1 rk
  obtain rfl : w1 = Value.bool true := e1
  obtain ⟨_, low, rows, rowsR, isd⟩ := dk_rd I.hok rd
  obtain ⟨epoch, atd⟩ := isd.dictAt
  have keyE : rows.map Prod.fst = ks.map Sum.inr := Eq.trans rowsR.keys.symm ek
  have lenE : rows.length = ks.length := by
    have t := congrArg List.length keyE
    simpa using t
  have line : ks.length ≤ sizeLine := by rw [sizeLine_eq]; omega
  refine call_function_entry_kw kind_sorted plain_sorted entry_sorted (args_sorted_rev _ _) ?_
  unfold Builtin.«sorted»
  refine wpAny_bind (m := checkCount "sorted" 1 1 _) (wpAny_pure (wpAny_bind (PySem.W.kdu_collect (A := X.A.in1) (PySem.W.kdl_dict (knd := mixKind X.prog X.w) (kvs := rows) (ep := epoch) low) (I.ok.hd calm) atd (by rw [lenE]; exact line) fun h1 t1 got keep isgot => ?_)))
  have gotL : got.toList.length = ks.length := (Array.length_toList ..).trans (isgot.1.trans lenE)
  have texts : StrsAre got.toList ks := strs_at gotL fun j v ev => by
    obtain ⟨key, _, er, ki⟩ := isgot.2 j v (by rw [← Array.getElem?_toList]; exact ev)
    have ekj : (ks.map Sum.inr)[j]? = some key := by rw [← keyE, List.getElem?_map, er]; rfl
    rw [List.getElem?_map] at ekj
    cases ez : ks[j]? with
    | none => rw [ez] at ekj; cases ekj
    | some z =>
      rw [ez] at ekj
      cases ekj
      obtain ⟨t, et⟩ := Value.isStrOf_shape (x := z) (v := v) ki
      exact ⟨z, t, rfl, et⟩
  have J : Inv X pn σ H { st with heap := h1, toks := t1 } := I.kept keep
  refine wpAny_bind (wpAny_newList ?_ (by rw [gotL]; rw [sizeLine_eq] at line; exact line))
  have isl : (h1.push (seqObj "list" got.toList.toArray 0)).get? h1.objs.size = some (seqObj "list" got.toList.toArray 0) := Heap.get?_push_size _ rfl
  change wpAny _ _ _ _ _ { st with heap := h1.push (seqObj "list" got.toList.toArray 0), toks := t1 }
  refine wpAny_bind (wpAny_holding (wpAny_call_entry_kw slot_list_sort ⟨_, isl, rfl⟩ entry_list_sort ?_ (args_list_sort_rev _ _)))
  refine SrtR.list_sort_ordR swo_codes isl (by rw [gotL]; exact line) (fun h2 => texts_sortable texts h2) fun out _ stable => ⟨_, rfl, ?_⟩
  have pm : out.Perm got.toList := stable.perm.trans (List.reverse_perm _)
  have outT : StrsAre out.reverse (out.reverse.map textOf) := texts_are fun v hv => texts_in texts v (pm.mem_iff.mp (List.mem_reverse.mp hv))
  have outP : (out.reverse.map textOf).Perm ks := by
    have t := ((List.reverse_perm out).trans pm).map textOf
    rw [texts_of texts] at t
    exact t
  obtain ⟨ep2, at2⟩ := sortedHeap_at (vs := got.toList) (out := out.toArray.reverse) isl
  have ylen : ((out.reverse.map textOf).map V.str).length ≤ sizeLine := by rw [List.length_map, outP.length_eq]; exact line
  have eo : out.reverse.toArray = out.toArray.reverse := by simp
  have laid := fun kept => J.laid (t' := t1) kept (Nat.le_refl h1.objs.size) (show ObjOk X.prog X.w _ _ _ (.lst ((out.reverse.map textOf).map V.str)) from ⟨ylen, out.reverse, ep2, vals_of_strs outT, by rw [eo]; exact at2⟩)
  refine wpAny_pure ⟨_, rfl, .ref h1.objs.size, _, laid fun b u eb => ?_, rfl, fin _ _ outP (J.hok.fresh (Nat.le_refl _))⟩
  have small := Heap.lt_size eb
  rw [sortedHeap_old (Nat.ne_of_lt small) (by rw [size_push']; exact Nat.lt_succ_of_lt small)]
  exact Heap.get?_push_of_some _ eb
end Ox

/-! Own layer, fifth part: tuple(d), a walk over a list or a tuple, dicts of data compared. -/
namespace Ox
open PySem PySem.Spec PyProof.Rows L2
/-! ### tuple(d) -/
section
variable {prog : Program} {w : World} {A : Around} {s : Shared} {E : Value → Shared → Prop}
theorem code_tuple_new_dict {K : Type} [DecidableEq K] {knd : KeyKind prog w K} {kvs : List (K × Value)} {ep : Nat} {d : Addr} {Q₁ : Value → Shared → Prop} (lo : (d == sysModules) = false) (hh : A.handled = none) (hat : s.heap.DictAt knd d kvs ep) (hn : kvs.length ≤ sizeLine)
    (h : ∀ (h' : Heap) (tk : Nat) (acc : Array Value), (∀ b o, s.heap.get? b = some o → h'.get? b = some o) → ItemsOf (fun i v => ∃ k x, kvs[i]? = some (k, x) ∧ knd.is k v = true) acc kvs.length →
      Q₁ (.ref h'.objs.size) { s with heap := h'.push { cls := .type "tuple", data := .seq acc }, toks := tk }) :
    codeAny (model prog w) A (.call (.builtin "tuple.__new__") ⟨[.type "tuple", .ref d], []⟩) (wants Q₁ E) s := by
  refine codeAny_of_tree ?_
  show wpAny _ A.in1 (do checkBuiltinCall "tuple.__new__" ⟨[.type "tuple", .ref d], []⟩; again (.builtin "tuple.__new__" ⟨[.type "tuple", .ref d], []⟩)) _ _ s
  refine wpAny_bind (wpAny_of_eq (F.newCall_tuple_1 _) (wpAny_pure ⟨plainId_quiet F.plain_tuple_new _, codeAny_builtin F.entry_tuple_new ?_⟩))
  rw [Around.under_plainId F.plain_tuple_new _]
  have hsub := sub_tuple_self
  have hinit := init_tuple_lookup
  have hmh := madeHere_tuple
  have hTI : s.TypeIs (.ref d) "dict" := hat.dictOf.typeIs
  have hh1 : A.in1.handled = none := hh
  wp_walk using wpAny_typeOf hTI, PySem.W.kdu_collect (A := A.in1) (PySem.W.kdl_dict (knd := knd) (kvs := kvs) (ep := ep) lo) hh1 hat hn
  intro h' tk acc hk hacc
  show wpAny _ _ (Builtin.Tuple.tupleExact acc.toList.toArray >>= fun v => ret v) _ _ _
  unfold Builtin.Tuple.tupleExact
  refine wpAny_bind (wpAny_newObj_type ?_ (by show acc.toList.toArray.size ≤ sizeLine; simp only [Array.toArray_toList]; rw [hacc.1]; exact hn))
  refine wpAny_pure ?_
  have e : acc.toList.toArray = acc := by simp
  rw [e]
  exact h h' tk acc hk hacc
theorem call_tuple_dict {K : Type} [DecidableEq K] {knd : KeyKind prog w K} {kvs : List (K × Value)} {ep : Nat} {d : Addr} {Q : Value → Shared → Prop} (lo : (d == sysModules) = false) (hh : A.handled = none) (hat : s.heap.DictAt knd d kvs ep) (hn : kvs.length ≤ sizeLine)
    (hQ : ∀ (h' : Heap) (tk : Nat) (acc : Array Value), (∀ b o, s.heap.get? b = some o → h'.get? b = some o) → ItemsOf (fun i v => ∃ k x, kvs[i]? = some (k, x) ∧ knd.is k v = true) acc kvs.length →
      Q (.ref h'.objs.size) { s with heap := h'.push { cls := .type "tuple", data := .seq acc }, toks := tk }) :
    wpAny (model prog w) A (call (.type "tuple") [.ref d]) Q E s := by
  refine callType_codes (Q₁ := fun obj s₁ => s₁.TypeIs obj "tuple" ∧ Q obj s₁) F.called_tuple (F.typeCall_tuple_1 _) F.entry_object_init
    (code_tuple_new_dict (A := A.in1) lo hh hat hn fun h' tk acc hk hacc => ⟨⟨_, Heap.get?_push_size _ rfl, rfl⟩, hQ h' tk acc hk hacc⟩) fun obj s₁ h₁ => ?_
  exact ⟨h₁.1, F.args_object_init_2 obj _, object_init_meets F.called_tuple.init.lookup F.called_tuple.made (by decide) prog w A.in1 _ s₁ ⟨h₁.1, rfl, h₁.2⟩⟩
end
def rTupD : List V → Hp → VK → Prop := fun xs H Q => ∃ p kvs, xs = [.ref p] ∧ Rd H p (.dK kvs) ∧ ∀ q, H q = none → Q (.ref q) (upd H q (.tup (kvs.map fun kv => kV kv.1)))
theorem call_tupD {X : Cx} (hc : X.calm = true) : CallR X (.type "tuple") rTupD := by
  intro pins s σ H xs us Q I r h
  obtain ⟨p, kvs, e, hk, q⟩ := h
  subst e
  obtain ⟨u, eu, rx⟩ := vals1 r
  subst eu
  obtain rfl : u = Value.ref p := rx
  obtain ⟨z, lo, vs, rk, hd⟩ := dk_rd I.hok hk
  obtain ⟨ep, hat⟩ := hd.dictAt
  have hl : kvs.length = vs.length := Paired.length rk
  have hz : vs.length ≤ sizeLine := by rw [← hl]; exact z
  refine call_tuple_dict (knd := mixKind X.prog X.w) lo (I.ok.hd hc) hat hz fun h' tk acc hkeep hacc => ?_
  have I2 : Inv X pins σ H { s with heap := h', toks := tk } := I.kept hkeep
  refine ⟨.ref h'.objs.size, upd H h'.objs.size (.tup (kvs.map fun kv => kV kv.1)), ?_, rfl, q _ (I2.hok.fresh (Nat.le_refl _))⟩
  refine I2.laid (t' := tk) (fun b o e => Heap.get?_push_of_some _ e) (Nat.le_refl _) (show ObjOk X.prog X.w _ _ _ (.tup (kvs.map fun kv => kV kv.1)) from ?_)
  refine ⟨?_, acc.toList, ?_, ?_⟩
  · rw [List.length_map, hl]; exact hz
  · have el : acc.toList.length = acc.size := by simp
    refine vals_of_at (by rw [List.length_map, el, hacc.1, hl]) fun j x w h1 h2 => ?_
    obtain ⟨k, y, hky, hi⟩ := hacc.2 j w (by rw [← Array.getElem?_toList]; exact h2)
    have e1 : (kvs.map (·.1))[j]? = some k := by
      rw [KV.keys rk, List.getElem?_map, hky] <;> rfl
    have e2 : (kvs.map fun kv => kV kv.1)[j]? = some (kV k) := by
      have e3 : (kvs.map fun kv => kV kv.1) = (kvs.map (·.1)).map kV := by rw [List.map_map] <;> rfl
      rw [e3, List.getElem?_map, e1] <;> rfl
    rw [e2] at h1
    cases h1
    exact keyIs_rel hi
  · exact ⟨_, Heap.get?_push_size _ rfl, rfl, by simp⟩
end Ox
namespace Ox
open PySem PySem.Spec PyProof.Rows L2
/-! ### a list or a tuple, walked -/
def iSeq (K : PySem.W.Frag) (te : TE) : TI := fun σ H R => te σ H fun x H1 => ∃ a, x = .ref a ∧ (((∃ xs, SqL K H1 a xs) ∧ R (Itl K a) H1) ∨ ((∃ xs, SqT K H1 a xs) ∧ R (Itt K a) H1))
theorem pi_seq {X : Cx} {tg l : Expr} {tl : TE} (hl : PE X l tl) : PI X tg l (iSeq X.K tl) := by
  refine ⟨fun pins s σ H R I h => ?_⟩
  refine thn (hl.run pins s σ H _ I h) fun v s1 ⟨x, H1, I1, r1, q1⟩ => ?_
  obtain ⟨a, e, ⟨⟨xs, hq⟩, q⟩ | ⟨⟨xs, hq⟩, q⟩⟩ := q1
  · subst e
    cases r1
    obtain ⟨its, rv, p, hz⟩ := I1.list hq
    refine wpAny_pyIter_list p.isList ?_
    refine ⟨s1.heap.objs.size, [s1.heap.objs.size], _, _, H1, rfl, I1.kept (t' := s1.toks) fun b o e => Heap.get?_push_of_some _ e, turn_list a _, ⟨_, Heap.get?_push_size _ rfl, rfl, rfl⟩, fun b hb => ?_, q⟩
    have e : b = s1.heap.objs.size := by simpa using hb
    subst e
    exact I1.fpOk (Nat.le_refl _) (I1.hok.fresh (Nat.le_refl _))
  · subst e
    cases r1
    obtain ⟨its, rv, p, hz⟩ := I1.tuple hq
    refine wpAny_pyIter_tuple (show s1.heap.IsTuple a its.toArray from p) ?_
    refine ⟨s1.heap.objs.size, [s1.heap.objs.size], _, _, H1, rfl, I1.kept (t' := s1.toks) fun b o e => Heap.get?_push_of_some _ e, turn_tuple a _, ⟨_, Heap.get?_push_size _ rfl, rfl, rfl⟩, fun b hb => ?_, q⟩
    have e : b = s1.heap.objs.size := by simpa using hb
    subst e
    exact I1.fpOk (Nat.le_refl _) (I1.hok.fresh (Nat.le_refl _))
def RunSq (K : PySem.W.Frag) (R : It → Hp → Prop) (x : V) (H : Hp) : Prop := ∃ a, x = .ref a ∧ (((∃ xs, SqL K H a xs) ∧ R (Itl K a) H) ∨ ((∃ xs, SqT K H a xs) ∧ R (Itt K a) H))
section
variable {σ : L2.St} {H : Hp} {te : TE} {R : It → Hp → Prop} {K : PySem.W.Frag} {n : L2.St → Hp → Prop} {r : VK} {b c : L2.St → Hp → Prop} {tb : TS} {g : TG} {p : Addr}
theorem x_iSq (h : te σ H fun x H1 => RunSq K R x H1) : iSeq K te σ H R := h
def LpSq (K : PySem.W.Frag) (g : TG) (tb : TS) (D : Ends) (σ : L2.St) (x : V) (H : Hp) : Prop := RunSq K (fun J H1 => Lp J g tb D σ H1) x H
theorem x_forSq (h : te σ H fun x H1 => LpSq K g tb ⟨n, r, b, c⟩ σ x H1) : tFor (iSeq K te) g tb ⟨n, r, b, c⟩ σ H := h
theorem runSq {xs : List V} (h : SqR K H p xs) (q : ∀ (J : It) (G : Hp → Prop), (∀ H', L2.Same H H' → G H') → L2.Walk J xs.length G (L2.YAt xs) → R J H) : RunSq K R (.ref p) H := by
  rcases h with h | h
  · exact ⟨p, rfl, .inl ⟨⟨xs, h⟩, q _ (fun H' => SqL K H' p xs) (fun H' s => s.seq h) walk_list⟩⟩
  · exact ⟨p, rfl, .inr ⟨⟨xs, h⟩, q _ (fun H' => SqT K H' p xs) (fun H' s => same_t s h) walk_tup⟩⟩
end
end Ox
namespace Ox
open PySem PySem.Spec PyProof.Rows L2
/-! ### dicts compared, their values data -/
def DvAt (K : PySem.W.Frag) (H : Hp) (ks : List (Key × V)) (f : Key → PyData) : Prop := ∀ p ∈ ks, Dp K H p.2 (f p.1) ∧ SeqAt.shaped (f p.1) = true
def eqKB (ks ls : List (Key × V)) (f g : Key → PyData) : Bool := (ks.length == ls.length) && ks.all fun p => (valV ls p.1).isSome && PyData.eqv (f p.1) (g p.1)
def rEqDD (K : PySem.W.Frag) : R2 := fun x y H Q => ∃ a b ks ls f g, x = .ref a ∧ y = .ref b ∧ Rd H a (.dK ks) ∧ Rd H b (.dK ls) ∧ DvAt K H ks f ∧ DvAt K H ls g ∧ Q (.bl (eqKB ks ls f g)) H
def rNeDD (K : PySem.W.Frag) : R2 := fun x y H Q => ∃ a b ks ls f g, x = .ref a ∧ y = .ref b ∧ Rd H a (.dK ks) ∧ Rd H b (.dK ls) ∧ DvAt K H ks f ∧ DvAt K H ls g ∧ Q (.bl (!eqKB ks ls f g)) H
theorem valV_in {kvs : List (Key × V)} {k : Key} {v : V} (h : valV kvs k = some v) : (k, v) ∈ kvs := valV_mem h
theorem hitsD {X : Cx} {pins : List (Addr × Obj)} {σ : L2.St} {H : Hp} {s : Shared} (I : Inv X pins σ H s) {A : Around} (hu : A.units + 64 < cLine) {ls : List (Key × V)} {vb : List (Key × Value)} (rb : KV ls vb) {g f : Key → PyData} (hg : DvAt X.K H ls g) {ks : List (Key × V)} {va : List (Key × Value)} (ra : KV ks va) :
    DvAt X.K H ks f → PySem.W.KeqHits A s vb va (ks.all fun p => (valV ls p.1).isSome && PyData.eqv (f p.1) (g p.1)) := by
  unfold KV at ra
  induction ra with
  | nil => intro _; exact .nil
  | @cons p q ps qs h t ih =>
    intro hp
    obtain ⟨h1, h2⟩ := h
    obtain ⟨k, v⟩ := q
    have h1' : p.1 = k := h1
    have hd := hp p List.mem_cons_self
    cases e : valV ls p.1 with
    | none =>
      have rr : RelO none (valueAt vb p.1) := by rw [← e]; exact rb.val p.1
      have hn : valueAt vb k = none := by
        rw [← h1']
        cases hq : valueAt vb p.1 with
        | none => rfl
        | some y => rw [hq] at rr; exact rr.elim
      have eb : ((p :: ps).all fun p => (valV ls p.1).isSome && PyData.eqv (f p.1) (g p.1)) = false := by
        rw [List.all_cons, e]
        rfl
      rw [eb]
      exact .miss hn
    | some z =>
      have rr : RelO (some z) (valueAt vb p.1) := by rw [← e]; exact rb.val p.1
      obtain ⟨y, hy, ry⟩ := rr.some_of
      rw [h1'] at hy
      have hz := hg (p.1, z) (valV_in e)
      obtain ⟨as, r1⟩ := Dp.reads I (f p.1) p.2 v hd.1 h2
      obtain ⟨bs, r2⟩ := Dp.reads I (g p.1) z y hz.1 ry
      have eb : ((p :: ps).all fun p => (valV ls p.1).isSome && PyData.eqv (f p.1) (g p.1)) = (PyData.eqv (f p.1) (g p.1) && ps.all fun p => (valV ls p.1).isSome && PyData.eqv (f p.1) (g p.1)) := by
        rw [List.all_cons, e]
        rfl
      rw [eb]
      exact .hit hy (SeqAt.eqAt_reads _ _ A s v y as bs r1 r2 (SeqAt.canLay_of_shaped hd.2) (SeqAt.canLay_of_shaped hz.2) (SeqAt.room_of_shaped hd.2 hu)) (ih fun p' hm => hp p' (List.mem_cons_of_mem _ hm))
section
variable {X : Cx}
theorem op_eqDD (hu : X.A.units + 65 < cLine) : OpR X (compareOp .Eq) (rEqDD X.K) := by
  intro pins s σ H x y v u Q I rx ry h
  obtain ⟨a, b, ks, ls, f, g, rfl, rfl, ea, eb, hf, hg, q⟩ := h
  obtain rfl : v = Value.ref a := rx
  obtain rfl : u = Value.ref b := ry
  obtain ⟨_, ya, va, ra, da⟩ := dk_rd I.hok ea
  obtain ⟨_, yb, vb, rb, db⟩ := dk_rd I.hok eb
  have e : eqKB ks ls f g = (va.length == vb.length && ks.all fun p => (valV ls p.1).isSome && PyData.eqv (f p.1) (g p.1)) := by
    unfold eqKB
    rw [Paired.length ra, Paired.length rb]
  rw [e] at q
  exact PySem.W.keq_eq (knd := mixKind X.prog X.w) ya yb da db (by omega) (fun _ => hitsD I (by show X.A.units + 1 + 64 < cLine; omega) rb hg ra hf) ⟨.bl _, H, I, rfl, q⟩
theorem op_neDD (hu : X.A.units + 65 < cLine) : OpR X (compareOp .NotEq) (rNeDD X.K) := by
  intro pins s σ H x y v u Q I rx ry h
  obtain ⟨a, b, ks, ls, f, g, rfl, rfl, ea, eb, hf, hg, q⟩ := h
  obtain rfl : v = Value.ref a := rx
  obtain rfl : u = Value.ref b := ry
  obtain ⟨_, ya, va, ra, da⟩ := dk_rd I.hok ea
  obtain ⟨_, yb, vb, rb, db⟩ := dk_rd I.hok eb
  have e : eqKB ks ls f g = (va.length == vb.length && ks.all fun p => (valV ls p.1).isSome && PyData.eqv (f p.1) (g p.1)) := by
    unfold eqKB
    rw [Paired.length ra, Paired.length rb]
  rw [e] at q
  exact PySem.W.keq_ne (knd := mixKind X.prog X.w) ya yb da db (by omega) (fun _ => hitsD I (by show X.A.units + 1 + 64 < cLine; omega) rb hg ra hf) ⟨.bl _, H, I, rfl, q⟩
end
/-! rows of texts under text keys -/
def ssD (ws : List Str) : PyData := .tuple (ws.map PyData.str)
theorem dpAll_strs {K : PySem.W.Frag} {H : Hp} : ∀ ws : List Str, DpAll K H (ws.map V.str) (ws.map PyData.str)
  | [] => .nil
  | z :: r => .cons (.str z) (dpAll_strs r)
end Ox
namespace Ox
open PySem PySem.Spec PyProof.Rows L2
theorem hu65 {A : Around} {k : Nat} (r : Room k A) : A.units + 65 < cLine := by have := r.un; omega
end Ox
namespace Ox
open PySem PySem.Spec PyProof.Rows L2
theorem wipe_one {σ : L2.St} {n : Nat} {v : Option V} : wipe ((wipe σ [n]).set n v) [n] = wipe σ [n] := by
  show ((σ.set n none).set n v).set n none = σ.set n none
  rw [List.set_set, List.set_set]
theorem filt_snoc {α : Type} {as : List α} {p : α → Bool} {i : Nat} {a : α} (h : as[i]? = some a) : (as.take (i + 1)).filter p = (as.take i).filter p ++ (if p a = true then [a] else []) := by
  have e : as.take (i + 1) = as.take i ++ [a] := by rw [List.take_succ, h]; rfl
  rw [e, List.filter_append, List.filter_cons]
  rfl
/-- a list comprehension over what c makes of the items of as: those with p, f of them -/
theorem lcFM {α : Type} {as : List α} {c : α → V} {J : It} {G : Hp → Prop} {n : Nat} {σ : L2.St} {H : Hp} {D : Addr} {Qd : Hp → Prop} {tt : TT} {te : TE} (w : L2.Walk J (as.map c).length G (L2.YAt (as.map c))) (hG : ∀ H', L2.Same H H' → G H') (hD : H D = none) (p : α → Bool) (f : α → V) (hl : as.length ≤ 10000)
    (ht : ∀ a ∈ as, ∀ H', L2.Same H H' → ∀ R : Bool → Hp → Prop, (∀ H'', L2.Same H' H'' → R (p a) H'') → tt ((wipe σ [n]).set n (some (c a))) H' R)
    (he : ∀ a ∈ as, p a = true → ∀ H', L2.Same H H' → ∀ Qk : VK, (∀ H'', L2.Same H' H'' → Qk (f a) H'') → te ((wipe σ [n]).set n (some (c a))) H' Qk)
    (k : ∀ H', L2.Same H H' → H' D = some (.lst ((as.filter p).map f)) → Qd H') : LcP J (gName n) tt te [n] σ D Qd H := by
  refine lc_by w (fun i H' => L2.Same H H' ∧ H' D = some (.lst (((as.take i).filter p).map f))) ⟨same_new hD, upd_same⟩ (fun i H' _ h => hG H' h.1) ?_ ?_
  · rintro i x H1 H2 hi ⟨s1, h1⟩ ⟨rfl, hx⟩
    rw [List.getElem?_map] at hx
    cases ha : as[i]? with
    | none => rw [ha] at hx; cases hx
    | some a =>
      rw [ha] at hx
      have ex : c a = x := Option.some.inj hx
      subst ex
      have hm := List.mem_of_getElem? ha
      refine x_g1 ⟨wipe_one, ?_⟩
      refine ht a hm H2 s1 _ fun H3 s3 => ?_
      have fl := filt_snoc (p := p) ha
      cases hp : p a with
      | true =>
        rw [hp, if_pos rfl] at fl
        refine x_T ?_
        refine he a hm hp H3 (s1.trans s3) _ fun H4 s4 => ?_
        have len : ((as.take i).filter p).length ≤ 10000 - 1 := by
          have := List.length_filter_le p (as.take i)
          rw [List.length_take] at this
          rw [List.length_map] at hi
          omega
        refine ⟨_, s4 _ _ (s3 _ _ h1), sz_lt (by rw [List.length_map]; omega), same_upd ((s1.trans s3).trans s4) hD, ?_⟩
        rw [upd_same, fl, List.map_append]
        rfl
      | false =>
        rw [hp, if_neg Bool.false_ne_true, List.append_nil] at fl
        refine x_F ?_
        refine ⟨s1.trans s3, ?_⟩
        rw [fl]
        exact s3 _ _ h1
  · rintro H1 ⟨s1, h1⟩
    rw [List.length_map, List.take_length] at h1
    exact k H1 s1 h1
/-- a dict comprehension: of those with p, the text kf and f of them; the texts are all different -/
theorem dcFM {α β : Type} {as : List α} {c : α → V} {g : β → V} {J : It} {G : Hp → Prop} {n : Nat} {σ : L2.St} {H : Hp} {D : Addr} {Qd : Hp → Prop} {tt : TT} {tk tv : TE} (w : L2.Walk J (as.map c).length G (L2.YAt (as.map c))) (hG : ∀ H', L2.Same H H' → G H') (hD : H D = none) (p : α → Bool) (kf : α → Str) (f : α → β) (hl : as.length ≤ 9999)
    (nd : ((as.filter p).map kf).Nodup)
    (ht : ∀ a ∈ as, ∀ H', L2.Same H H' → ∀ R : Bool → Hp → Prop, (∀ H'', L2.Same H' H'' → R (p a) H'') → tt ((wipe σ [n]).set n (some (c a))) H' R)
    (hk : ∀ a ∈ as, p a = true → ∀ H', L2.Same H H' → ∀ Qk : VK, (∀ H'', L2.Same H' H'' → Qk (.str (kf a)) H'') → tk ((wipe σ [n]).set n (some (c a))) H' Qk)
    (he : ∀ a ∈ as, p a = true → ∀ H', L2.Same H H' → ∀ Qk : VK, (∀ H'', L2.Same H' H'' → Qk (g (f a)) H'') → tv ((wipe σ [n]).set n (some (c a))) H' Qk)
    (k : ∀ H', L2.Same H H' → H' D = some (.dK (strK g ((as.filter p).map fun a => (kf a, f a)))) → Qd H') : DcP J (gName n) tt tk tv [n] σ D Qd H := by
  refine dc_by w (fun i H' => L2.Same H H' ∧ H' D = some (.dK (strK g (((as.take i).filter p).map fun a => (kf a, f a))))) ⟨same_new hD, upd_same⟩ (fun i H' _ h => hG H' h.1) ?_ ?_
  · rintro i x H1 H2 hi ⟨s1, h1⟩ ⟨rfl, hx⟩
    rw [List.getElem?_map] at hx
    cases ha : as[i]? with
    | none => rw [ha] at hx; cases hx
    | some a =>
      rw [ha] at hx
      have ex : c a = x := Option.some.inj hx
      subst ex
      have hm := List.mem_of_getElem? ha
      refine x_g1 ⟨wipe_one, ?_⟩
      refine ht a hm H2 s1 _ fun H3 s3 => ?_
      have fl := filt_snoc (p := p) ha
      cases hp : p a with
      | true =>
        rw [hp, if_pos rfl] at fl
        refine x_T ?_
        refine hk a hm hp H3 (s1.trans s3) _ fun H4 s4 => ?_
        refine he a hm hp H4 ((s1.trans s3).trans s4) _ fun H5 s5 => ?_
        have len : ((as.take i).filter p).length ≤ 9998 := by
          have := List.length_filter_le p (as.take i)
          rw [List.length_take] at this
          rw [List.length_map] at hi
          omega
        have fresh : kf a ∉ (((as.take i).filter p).map fun a => (kf a, f a)).map (·.1) := fun hmem => by
          rw [List.map_map] at hmem
          have e1 : as = as.take (i + 1) ++ as.drop (i + 1) := (List.take_append_drop _ _).symm
          rw [e1, List.filter_append, fl, List.map_append, List.map_append] at nd
          exact (List.nodup_append.mp (List.nodup_append.mp nd).1).2.2 (kf a) hmem (kf a) List.mem_cons_self rfl
        refine ⟨_, Sum.inr (kf a), rfl, s5 _ _ (s4 _ _ (s3 _ _ h1)), sz_lt (by rw [List.length_map, List.length_map]; omega), same_upd (((s1.trans s3).trans s4).trans s5) hD, ?_⟩
        rw [upd_same, strK_put, putL_new _ fresh, fl, List.map_append]
        rfl
      | false =>
        rw [hp, if_neg Bool.false_ne_true, List.append_nil] at fl
        refine x_F ?_
        refine ⟨s1.trans s3, ?_⟩
        rw [fl]
        exact s3 _ _ h1
  · rintro H1 ⟨s1, h1⟩
    rw [List.length_map, List.take_length] at h1
    exact k H1 s1 h1
/-! texts compared -/
theorem eqvAll_strs : ∀ xs ys : List Str, PyData.eqvAll (xs.map PyData.str) (ys.map PyData.str) = decide (xs = ys)
  | [], [] => rfl
  | [], _ :: _ => rfl
  | _ :: _, [] => rfl
  | x :: r, y :: t => by
    show (PyData.eqv (.str x) (.str y) && PyData.eqvAll (r.map PyData.str) (t.map PyData.str)) = _
    rw [eqvAll_strs r t]
    have e : PyData.eqv (.str x) (.str y) = decide (x = y) := by
      show (x == y) = _
      by_cases h : x = y
      · rw [h]; simp
      · have h2 : (x == y) = false := by simpa using h
        rw [h2]
        exact (decide_eq_false h).symm
    rw [e]
    by_cases h : x = y
    · by_cases h2 : r = t
      · simp [h, h2]
      · simp [h, h2]
    · simp [h]
theorem strs_lay : ∀ xs : List Str, (∀ z ∈ xs, PyData.strOk z = true) → PyData.canLayAll0 (xs.map PyData.str) = true ∧ PyData.depthAll (xs.map PyData.str) = 0
  | [], _ => ⟨rfl, rfl⟩
  | x :: r, h => by
    obtain ⟨h1, h2⟩ := strs_lay r fun y hy => h y (List.mem_cons_of_mem _ hy)
    have h3 := h x List.mem_cons_self
    rw [List.map_cons]
    refine ⟨?_, ?_⟩
    · show (PyData.strOk x && PyData.canLayAll0 (r.map PyData.str)) = true
      rw [h1, h3]
      rfl
    · show max 0 (PyData.depthAll (r.map PyData.str)) = 0
      rw [h2]
      rfl
theorem ssD_shaped {xs : List Str} (h : ∀ z ∈ xs, PyData.strOk z = true) : SeqAt.shaped (ssD xs) = true := by
  obtain ⟨h1, h2⟩ := strs_lay xs h
  unfold SeqAt.shaped
  have e1 : PyData.canLay0 (ssD xs) = true := h1
  have e2 : PyData.depth (ssD xs) ≤ 64 := by
    show PyData.depthAll (xs.map PyData.str) + 1 ≤ 64
    rw [h2]
    decide
  rw [e1, decide_eq_true e2]
  rfl
theorem ssL_shaped {xs : List Str} (h : ∀ z ∈ xs, PyData.strOk z = true) : SeqAt.shaped (.list (xs.map PyData.str)) = true := ssD_shaped h
theorem ssD_eqv (xs ys : List Str) : PyData.eqv (ssD xs) (ssD ys) = decide (xs = ys) := eqvAll_strs xs ys
section
variable {K : PySem.W.Frag} {H : Hp} {Q : VK} {a b : Addr} {xs ys : List Str}
theorem x_neTS (ha : SqT K H a (xs.map V.str)) (hb : SqT K H b (ys.map V.str)) (hx : ∀ z ∈ xs, PyData.strOk z = true) (hy : ∀ z ∈ ys, PyData.strOk z = true) (q : Q (.bl (!decide (xs = ys))) H) : rNeD K (.ref a) (.ref b) H Q :=
  ⟨_, _, .tup ha (dpAll_strs xs), .tup hb (dpAll_strs ys), ssD_shaped hx, ssD_shaped hy, by rw [show PyData.eqv (.tuple (xs.map PyData.str)) (.tuple (ys.map PyData.str)) = decide (xs = ys) from ssD_eqv xs ys]; exact q⟩
theorem x_neLS (ha : SqL K H a (xs.map V.str)) (hb : SqL K H b (ys.map V.str)) (hx : ∀ z ∈ xs, PyData.strOk z = true) (hy : ∀ z ∈ ys, PyData.strOk z = true) (q : Q (.bl (!decide (xs = ys))) H) : rNeD K (.ref a) (.ref b) H Q :=
  ⟨_, _, .lst ha (dpAll_strs xs), .lst hb (dpAll_strs ys), ssL_shaped hx, ssL_shaped hy, by rw [show PyData.eqv (.list (xs.map PyData.str)) (.list (ys.map PyData.str)) = decide (xs = ys) from eqvAll_strs xs ys]; exact q⟩
theorem x_eqTS (ha : SqT K H a (xs.map V.str)) (hb : SqT K H b (ys.map V.str)) (hx : ∀ z ∈ xs, PyData.strOk z = true) (hy : ∀ z ∈ ys, PyData.strOk z = true) (q : Q (.bl (decide (xs = ys))) H) : rEqD K (.ref a) (.ref b) H Q :=
  ⟨_, _, .tup ha (dpAll_strs xs), .tup hb (dpAll_strs ys), ssD_shaped hx, ssD_shaped hy, by rw [show PyData.eqv (.tuple (xs.map PyData.str)) (.tuple (ys.map PyData.str)) = decide (xs = ys) from ssD_eqv xs ys]; exact q⟩
theorem x_eqLS (ha : SqL K H a (xs.map V.str)) (hb : SqL K H b (ys.map V.str)) (hx : ∀ z ∈ xs, PyData.strOk z = true) (hy : ∀ z ∈ ys, PyData.strOk z = true) (q : Q (.bl (decide (xs = ys))) H) : rEqD K (.ref a) (.ref b) H Q :=
  ⟨_, _, .lst ha (dpAll_strs xs), .lst hb (dpAll_strs ys), ssL_shaped hx, ssL_shaped hy, by rw [show PyData.eqv (.list (xs.map PyData.str)) (.list (ys.map PyData.str)) = decide (xs = ys) from eqvAll_strs xs ys]; exact q⟩
theorem x_tupD {p : Addr} {kvs : List (Key × V)} (h : Rd H p (.dK kvs)) (q : ∀ l, H l = none → Q (.ref l) (upd H l (.tup (kvs.map fun kv => kV kv.1)))) : rTupD [V.ref p] H Q := ⟨p, kvs, rfl, h, q⟩
end
end Ox

/-! Own layer: sorted(a list of tuples of whole numbers, of any lengths, the empty one ahead). -/
namespace Ox
open PySem PySem.Spec PyProof.Rows L2
theorem lex_asym : ∀ a b : List Int, HT.lexLt a b = true → HT.lexLt b a = false
  | [], [], h => by cases h
  | [], _ :: _, _ => rfl
  | _ :: _, [], h => by cases h
  | x :: r, y :: t, h => by
    rw [HT.lexLt_cons] at h ⊢
    by_cases e : x = y
    · rw [if_pos e] at h
      rw [if_pos e.symm]
      exact lex_asym r t h
    · rw [if_neg e] at h
      rw [if_neg (fun q => e q.symm)]
      have := of_decide_eq_true h
      exact decide_eq_false (by omega)
theorem lex_trans : ∀ a b c : List Int, HT.lexLt b a = false → HT.lexLt c b = false → HT.lexLt c a = false
  | [], _, [], _, _ => rfl
  | [], [], _ :: _, _, _ => rfl
  | [], _ :: _, _ :: _, _, _ => rfl
  | _ :: _, [], _, h, _ => by cases h
  | _ :: _, _ :: _, [], _, h => by cases h
  | x :: r, y :: t, z :: u, h1, h2 => by
    rw [HT.lexLt_cons] at h1 h2 ⊢
    by_cases e1 : y = x
    · rw [if_pos e1] at h1
      by_cases e2 : z = y
      · rw [if_pos e2] at h2
        rw [if_pos (e2.trans e1)]
        exact lex_trans r t u h1 h2
      · rw [if_neg e2] at h2
        have := of_decide_eq_false h2
        rw [if_neg (by omega)]
        exact decide_eq_false (by omega)
    · rw [if_neg e1] at h1
      have a1 := of_decide_eq_false h1
      by_cases e2 : z = y
      · rw [if_neg (by omega)]
        exact decide_eq_false (by omega)
      · rw [if_neg e2] at h2
        have := of_decide_eq_false h2
        rw [if_neg (by omega)]
        exact decide_eq_false (by omega)
theorem lex_anti : ∀ a b : List Int, HT.lexLt b a = false → HT.lexLt a b = false → a = b
  | [], [], _, _ => rfl
  | [], _ :: _, _, h => by cases h
  | _ :: _, [], h, _ => by cases h
  | x :: r, y :: t, h1, h2 => by
    rw [HT.lexLt_cons] at h1 h2
    by_cases e : x = y
    · rw [if_pos e.symm] at h1
      rw [if_pos e] at h2
      rw [e, lex_anti r t h1 h2]
    · rw [if_neg (fun q => e q.symm)] at h1
      rw [if_neg e] at h2
      have := of_decide_eq_false h1
      have := of_decide_eq_false h2
      omega
theorem swo_lexL (k : Value → List Int) : SrtO.Swo fun v u => HT.lexLt (k v) (k u) := ⟨fun x y h => lex_asym _ _ h, fun x y z h1 h2 => lex_trans _ _ _ h1 h2⟩
/-- a tuple of the ints ns -/
def TupI (h : Heap) (v : Value) (ns : List Int) : Prop := ∃ a its, v = .ref a ∧ IsTup h a its ∧ IntsAre its.toList ns
theorem TupI.keep {h h' : Heap} {v : Value} {ns : List Int} (t : TupI h v ns) (k : ∀ b o, h.get? b = some o → o.cls = .type "tuple" → h'.get? b = some o) : TupI h' v ns := by
  obtain ⟨a, its, e, ⟨o, ho, hc, hd⟩, hi⟩ := t
  exact ⟨a, its, e, ⟨o, k a o ho hc, hc, hd⟩, hi⟩
section
variable {prog : Program} {w : World} {A : Around} {s : Shared}
/-- the first items of tuples, where they have any -/
theorem firstsG {M : Model} {E : Value → Shared → Prop} : ∀ (vs : List Value) {Q : List (Option Value) → Shared → Prop}, (∀ v ∈ vs, ∃ ns, TupI s.heap v ns) → (∀ gs : List (Option Value), gs.length = vs.length → (∀ v r, vs = v :: r → TupI s.heap v [] → ∃ g, gs = none :: g) → Q gs s) → wpAny M A (vs.mapM firstOfTuple') Q E s
  | [], _, _, h => by
    rw [List.mapM_nil]
    exact wpAny_pure (h [] rfl fun v r e => by cases e)
  | v :: vs, Q, t, h => by
    obtain ⟨ns, a, its, rfl, ⟨o, ho, hc, n, hd⟩, hi⟩ := t v List.mem_cons_self
    rw [List.mapM_cons]
    refine wpAny_bind ?_
    rw [PySem.W.kas_first_eq]
    refine wpAny_bind (PySem.W.Looks.here (show PySem.W.Looks M s.heap (typeOf (.ref a)) o.cls from (PySem.W.Looks.ld ho).andThen .now) ?_)
    rw [hc, if_neg (by first | decide | simp)]
    refine wpAny_bind (listItems_at ho hd (wpAny_pure ?_))
    refine wpAny_bind (firstsG vs (fun v hv => t v (List.mem_cons_of_mem _ hv)) fun gs hl _ => ?_)
    refine wpAny_pure (h (its[0]? :: gs) (by simp [hl]) fun v r e te => ?_)
    cases e
    obtain ⟨a', its', e', ⟨o', ho', hc', n', hd'⟩, hi'⟩ := te
    cases e'
    rw [ho] at ho'
    cases ho'
    rw [hd] at hd'
    cases hd'
    have : its.toList = [] := by
      cases hq : its.toList with
      | nil => rfl
      | cons x y => rw [hq] at hi'; cases hi'
    have e0 : its[0]? = none := by
      rw [← Array.getElem?_toList, this]
      rfl
    exact ⟨gs, by rw [e0]⟩
theorem kindLots {E : Value → Shared → Prop} {Q : SortKind → Shared → Prop} {v0 : Value} {r : List Value} (h0 : TupI s.heap v0 []) (ht : ∀ v ∈ v0 :: r, ∃ ns, TupI s.heap v ns) (h : Q oneType' s) : wpAny (model prog w) A (keyKind' (v0 :: r).toArray) Q E s := by
  rw [PyProof.Rows.kat_kind_eq, List.mapM_toArray, map_eq_pure_bind]
  refine wpAny_bind (wpAny_bind (firstsG (v0 :: r) ht fun gs hl hg => ?_))
  obtain ⟨g, rfl⟩ := hg v0 r rfl h0
  refine wpAny_pure ?_
  have hall : ((none :: g).toArray.all fun x : Option Value => x.isSome) = false := by simp
  rw [hall, if_neg Bool.false_ne_true]
  have h1 : (((none :: g).toArray[0]?).bind id : Option Value).isSome = false := by simp
  rw [h1, if_neg Bool.false_ne_true, oneTypeOnly'_eq, List.mapM_toArray, map_eq_pure_bind]
  refine wpAny_bind (wpAny_bind (wpAny_bind (PySem.W.kas_mapM (r := Value.type "tuple") _ (fun v hv Q' hq => ?_) (wpAny_pure ?_))))
  · obtain ⟨ns, a, its, rfl, ⟨o, ho, hc, hd⟩, _⟩ := ht v hv
    refine (show PySem.W.Looks (model prog w) s.heap (typeOf (.ref a)) o.cls from (PySem.W.Looks.ld ho).andThen .now).here ?_
    rw [hc]
    exact hq
  · have hall2 : ((List.map (fun _ => Value.type "tuple") (v0 :: r)).toArray.all fun x => x == Value.type "tuple") = true := by
      simp only [List.all_toArray, List.all_map, List.all_eq_true]
      intro _ _
      rfl
    have h00 : (List.map (fun _ => Value.type "tuple") (v0 :: r)).toArray[0]? = some (Value.type "tuple") := by simp
    rw [h00]
    simp only [hall2, if_true]
    exact wpAny_pure (wpAny_pure h)
theorem cmpLots {vs : List Value} {k : Value → List Int} (hu : A.units < cLine) (hp : ∀ v ∈ vs, TupI s.heap v (k v)) : SrtO.Cmp prog w A s oneType' (fun p => p.1 ∈ vs) (SrtO.lt2 fun v u => HT.lexLt (k v) (k u)) := by
  intro p q hm hm'
  obtain ⟨a, its, e, t1, i1⟩ := hp _ hm
  obtain ⟨b, its2, e2, t2, i2⟩ := hp _ hm'
  show wpAny (model prog w) A (keyLt' oneType' p.1 q.1) (fun r s' => s' = s ∧ r = HT.lexLt (k p.1) (k q.1)) (fun _ _ => False) s
  rw [keyLt'_oneType, oneLt'_eq, e, e2]
  rw [e] at i1
  rw [e2] at i2
  simp only [if_true]
  refine wpAny_bind (wpAny_cRoomFor hu ?_)
  obtain ⟨⟨cls, dd, data, sl⟩, ho, hc, n, hd⟩ := id t1
  obtain ⟨⟨cls2, dd2, data2, sl2⟩, ho2, hc2, n2, hd2⟩ := id t2
  simp only at hc hd hc2 hd2
  subst hc hd hc2 hd2
  refine wpAny_bind (wpAny_callSpecialIfBound?_slot (T := "tuple") ⟨_, ho, rfl⟩ PySem.F.slot_tuple_lt ?_)
  refine call_meets PySem.F.slot_tuple_lt ⟨_, ho, rfl⟩ PySem.F.entry_tuple_lt (PySem.F.args_tuple_lt_2 _ _) (HT.tuple_lt_ints a b its its2 n n2 dd dd2 sl sl2 _ _ i1 i2) ⟨ho, ho2, ?_⟩
  exact wpAny_truthy_bool ⟨rfl, rfl⟩
theorem sortedLots {l : Addr} {v0 : Value} {r : List Value} {k : Value → List Int} {E : Value → Shared → Prop} {Q : Value → Shared → Prop} (hu : A.units + 2 < cLine) (hl : s.heap.IsList l (v0 :: r).toArray) (hz : (v0 :: r).length ≤ sizeLine) (h0 : k v0 = []) (hp : ∀ v ∈ v0 :: r, TupI s.heap v (k v))
    (h : ∀ (h' : Heap) (d : Addr) (out : List Value), SrtO.Srtd (fun v u => HT.lexLt (k v) (k u)) out → out.Perm (v0 :: r) → (∀ b o, s.heap.get? b = some o → h'.get? b = some o) → s.heap.objs.size ≤ d → (∃ n, h'.get? d = some (seqObj "list" out.toArray n)) → Q (.ref d) { s with heap := h' }) :
    wpAny (model prog w) A (call (.builtin "sorted") [.ref l]) Q E s := by
  refine SrtO.sorted_ord (swo_lexL k) hl hz (fun h2 h₁ a ha kk => ?_) fun out hs hb => ?_
  · intro h' keep
    have ne : ∀ o, h₁.get? a = some o → o.cls ≠ .type "tuple" := fun o e => by
      rw [ha] at e
      cases e
      intro c
      exact absurd (Value.type.inj c) (by decide)
    have hp' : ∀ v ∈ v0 :: r, TupI h' v (k v) := fun v hm => (hp v hm).keep fun b o e c => keep b o (fun z => by subst z; exact ne o ((kk b o e).2) c) (kk b o e).2
    refine ⟨oneType', fun Q E hq => ?_, cmpLots (by show A.units + 1 + 1 < cLine; omega) hp'⟩
    refine kindLots (s := { s with heap := h' }) ?_ (fun v hv => ⟨_, hp' v hv⟩) hq
    have := hp' v0 List.mem_cons_self
    rw [h0] at this
    exact this
  · exact h _ _ out hs hb.perm (fun b o e => sortedAll_old e) (Nat.le_succ _) (sortedAll_at s.heap (v0 :: r) out.toArray)
end
/-! the rule: the items are references -/
def rSortLots (K : PySem.W.Frag) : List V → Hp → VK → Prop := fun vs H Q => ∃ (l a0 : Addr) (as : List Addr) (f : Addr → List Int), vs = [.ref l] ∧ SqL K H l ((a0 :: as).map V.ref) ∧ f a0 = [] ∧ (∀ a ∈ a0 :: as, SqT K H a ((f a).map V.int)) ∧
  ∀ (out : List Addr) (p : Addr), out.Perm (a0 :: as) → out.Pairwise (fun a b => HT.lexLt (f b) (f a) = false) → H p = none → Q (.ref p) (upd H p (.lst (out.map V.ref)))
def refOf : Value → Addr
  | .ref a => a
  | _ => 0
theorem vals_refs {as : List Addr} : ∀ {us : List Value}, Vals (as.map V.ref) us → us = as.map Value.ref := by
  induction as with
  | nil => intro us h; cases h; rfl
  | cons a r ih =>
    intro us h
    cases h with
    | cons h1 h2 => rw [ih h2, show _ = Value.ref a from h1]; rfl
theorem refs_vals : ∀ as : List Addr, Vals (as.map V.ref) (as.map Value.ref)
  | [] => .nil
  | a :: r => .cons rfl (refs_vals r)
theorem cr_sortedLots {X : Cx} (hu : X.A.units + 2 < cLine) : CallR X (.builtin "sorted") (rSortLots X.K) := by
  intro pins s σ H vs us Q I r h
  obtain ⟨l, a0, as, f, rfl, hs, h0, hf, q⟩ := h
  obtain ⟨its, rv, hl, hz⟩ := I.list hs
  obtain ⟨u, rfl, ru⟩ := vals1 r
  obtain rfl : u = Value.ref l := ru
  obtain rfl := vals_refs rv
  refine sortedLots (k := fun v => f (refOf v)) (v0 := .ref a0) (r := as.map Value.ref) hu hl.isList (by show ((a0 :: as).map Value.ref).length ≤ _; rw [← rv.length]; exact hz) h0 (fun v hv => ?_) fun h' d out h1 h2 kp hd hn => ?_
  · obtain ⟨a, ha, rfl⟩ := List.mem_map.mp (show v ∈ (a0 :: as).map Value.ref from hv)
    obtain ⟨its2, r2, p2, _⟩ := I.tuple (hf a ha)
    exact ⟨a, its2.toArray, rfl, p2, intsAre_of r2⟩
  · obtain ⟨n, hn⟩ := hn
    have eo : out = (out.map refOf).map Value.ref := by
      rw [List.map_map]
      conv => lhs; rw [← List.map_id out]
      refine List.map_congr_left fun v hv => ?_
      obtain ⟨a, _, rfl⟩ := List.mem_map.mp (show v ∈ (a0 :: as).map Value.ref from h2.mem_iff.mp hv)
      rfl
    have pm : (out.map refOf).Perm (a0 :: as) := by
      have := h2.map refOf
      have e2 : ((Value.ref a0 :: as.map Value.ref).map refOf) = a0 :: as := by
        show a0 :: (as.map Value.ref).map refOf = _
        rw [List.map_map]
        have : (refOf ∘ Value.ref) = (id : Addr → Addr) := rfl
        rw [this, List.map_id]
      rw [e2] at this
      exact this
    refine ⟨.ref d, upd H d (.lst ((out.map refOf).map V.ref)), I.laid (t' := s.toks) kp hd ⟨?_, (out.map refOf).map Value.ref, n, refs_vals _, by rw [← eo]; exact hn⟩, rfl, q _ d pm (List.pairwise_map.mpr h1) (I.hok.fresh hd)⟩
    rw [List.length_map, pm.length_eq]
    rw [List.length_map] at hz
    exact hz
end Ox
namespace Ox
open PySem PySem.Spec PyProof.Rows L2
theorem hu2 {A : Around} {k : Nat} (r : Room k A) : A.units + 2 < cLine := by have := r.un; omega
theorem op_catAK {X : Cx} {K : PySem.W.Frag} (e : X.K = K := by rfl) : OpR X (binaryOp .Add) (rCatA K) := e ▸ op_catA
theorem x_catA {K : PySem.W.Frag} {H : Hp} {Q : VK} {a b : Addr} {xs ys : List V} (ha : SqT K H a xs) (hb : H b = some (.tup ys)) (hy : ys ≠ []) (hl : xs.length + ys.length ≤ 10000) (q : ∀ p H', L2.Same H H' → H' p = some (.tup (xs ++ ys)) → Q (.ref p) H') : rCatA K (.ref a) (.ref b) H Q :=
  ⟨a, b, xs, ys, rfl, rfl, ha, SqT.of hb, sz_le hl, fun e => q b H (fun _ _ h => h) (by rw [e]; exact hb), fun _ e => absurd e hy, fun _ _ p hp => q p _ (same_new hp) upd_same⟩
end Ox

/-! Own layer: the law's own def, walked where it is called (so that no repr is under way there), and repr of nested data. -/
namespace Ox
open PySem PySem.Spec PyProof.Rows L2
section
variable {P : Program} {w : World} {K : PySem.W.Frag} {mg : Str → Option Value} {base : Heap}
/-- a law's promise: as FnOk, for the law's caller alone -/
structure FnL (P : Program) (w : World) (K : PySem.W.Frag) (mg : Str → Option Value) (base : Heap) (f : Addr) (fd : FuncData) (ps : List Str) (sp : Sp) : Prop where
  len : ∀ vs H Q E, sp vs H Q E → vs.length = ps.length
  run : ∀ (s : Shared) (H : Hp) (args : Args) (us : List Value) (vs : List V) (Q : VK), Env0 P w K mg base callerA [] s H → BindsTo s fd args (ps.zip us) → Vals vs us → sp vs H Q E0 →
    codeAny (model P w) callerA (.call (.ref f) args) (CR CX0 [] P w H s Q E0) s
/-- the body's context where the law's caller calls -/
abbrev cxL (P : Program) (w : World) (K : PySem.W.Frag) (mg : Str → Option Value) (base : Heap) (N : List Str) (qual : Str) (sc : Scope) (f : Addr) (cdv : Value) (s : Shared) (H : Hp) : Cx := cxOf CX0 P w K mg base N qual sc f cdv callerA [] s H E0
theorem Fun.okL {x qual : Str} {st : Stmt} {f : Addr} {fd : FuncData} {N ps : List Str} {k : Nat} {sp : Sp} (hr : Room (k + 1) callerA) (F : Fun K x qual st f fd) (S : FnScope N ps (defScope st)) (len : ∀ vs H Q E, sp vs H Q E → vs.length = ps.length)
    (body : ∀ (cdv : Value) (s : Shared) (H : Hp) (vs : List V) (Q : VK), Room k (callerA.deeper (envOfC qual (defScope st) s.heap.objs.size f cdv)) → sp vs H Q E0 →
      ∃ t, PSs (cxL P w K mg base N qual (defScope st) f cdv s H).nox (defBody st) t ∧ t { nx := fun _ H' => Q .non H', rt := Q } (start N vs) H) : FnL P w K mg base f fd ps sp := by
  obtain ⟨oc, od, kV, doc, pm, an, cdv, ct, osl, rfl, lk, hcd⟩ := F.ex
  refine ⟨len, ?_⟩
  intro s H args us vs Q e0 hb r hsp
  have old : ∀ b o, base.get? b = some o → s.heap.get? b = some o := fun b o e => (e0.bs b o e).1
  have par : ∀ y ∈ ps.zip us, (defScope st).names.lookup y.1 = some .local ∨ ((defScope st).names.lookup y.1 = some .cell ∧ ((cellsFrom (s.heap.objs.size + 1) (defScope st).names []).lookup y.1).isSome = true) := by
    rintro ⟨n, v⟩ hy
    exact (S.par n (List.of_mem_zip hy).1).imp id fun q => ⟨q, PySem.W.cellsFrom_some _ _ _ (.inl q)⟩
  refine codeAny_call_function hr.depth (e0.mod.kin.keeps old _ _ lk) rfl S.co S.gen rfl (PySem.W.codeRec_of (e0.mod.kin.keeps old) hcd) (hb _ _ _ _ (wpAny_newFunctionEnv_cells S.kind par ?_))
  rintro env rfl s1 x
  obtain ⟨t, ht, hq⟩ := body cdv s H vs Q (hr.deeper _) hsp
  refine ⟨(e0.mod.nolimit.keeps old).keeps x.toInCall.keep, codeAny_func ?_⟩
  have J : Inv (cxL P w K mg base N qual (defScope st) f cdv s H) [] (start N vs) H s1 := inv_start S rfl e0 (len _ _ _ _ hsp) r x
  refine wpAny_mono (ht.nox.run [] s1 _ H _ J hq) (fun fl s' z => ?_) fun _ _ z => z
  cases fl with
  | ret u =>
    obtain ⟨v, σ', H', I', rv, q⟩ := z
    exact ⟨v, H', I'.os, I'.bare, I'.base, I'.hok, rv, q⟩
  | next =>
    obtain ⟨σ', H', I', q⟩ := z
    exact ⟨V.non, H', I'.os, I'.bare, I'.base, I'.hok, rfl, q⟩
  | brk =>
    obtain ⟨_, _, _, q⟩ := z
    exact q.elim
  | cont =>
    obtain ⟨_, _, _, q⟩ := z
    exact q.elim
end
/-- where the law is called: H tracks the script at a, or nothing -/
theorem envL {P : Program} {w : World} {K : PySem.W.Frag} {mg mb : Str → Option Value} {s : Shared} {H : Hp} {a : Addr} {vs : List Value}
    (KX : K.In s.heap) (g : s.heap.Ns mainGlobals mg) (b : s.heap.Ns builtinsNs mb) (bb : ∀ x : Str, x ≠ "__name__" → mb x = bootBuiltins x) (lim : s.heap.NoLimit) (hg : s.gens = #[])
    (ha : s.heap.get? a = some { cls := .type "list", data := .seq vs.toArray }) (hA : ∀ c, c ≠ a → H c = none) (hK : H a = none ∨ K.lookup a = none) (hok : HOk P w H s.heap) :
    Env0 P w K mg (hidT s.heap H) callerA [] s H ∧ K.In (hidT s.heap H) ∧ (hidT s.heap H).Ns mainGlobals mg := by
  have nsOf : ∀ {c : Addr} {m : Str → Option Value}, s.heap.Ns c m → (hidT s.heap H).Ns c m := by
    rintro c m ⟨o, es, ep, e, d, r⟩
    refine ⟨o, es, ep, hidT_get e (hA c ?_), d, r⟩
    rintro rfl
    rw [ha] at e
    cases e
    cases d
  have inK : K.In (hidT s.heap H) := by
    intro c o e
    refine hidT_get (KX c o e) ?_
    by_cases hc : c = a
    · subst hc
      rcases hK with z | z
      · exact z
      · rw [z] at e; cases e
    · exact hA c hc
  obtain ⟨mc, l1, l2⟩ := lim
  exact ⟨⟨rfl, ⟨inK, nsOf g, ⟨mb, nsOf b, bb⟩, ⟨mc, nsOf l1, l2⟩⟩, fun c o e => of_hidT e, Nat.le_of_eq (hidT_size _ _), trivial, fun c hc => absurd (show c ∈ ([] : List Addr) from hc) (by simp), hok, .of_eq hg⟩, inK, nsOf g⟩
theorem endL {P : Program} {w : World} {s : Shared} {H : Hp} {r : Result} {s' : Shared} (hok : HOk P w H s.heap) (hO : Only H) (h : CR CX0 [] P w H s (fun v _ => v = .bl true) E0 r s') :
    r = .ok (.ret (.bool true)) ∧ OldK s.heap s'.heap ∧ s'.os = s.os ∧ AllBare s'.gens := by
  cases r with
  | error e => exact False.elim h
  | ok fl =>
    cases fl with
    | ret u =>
      obtain ⟨v, H', os, bare, un, hok', rv, q⟩ := h
      obtain rfl : v = V.bl true := q
      obtain rfl : u = Value.bool true := rv
      refine ⟨rfl, OldK.of_keep ?_, os, bare⟩
      intro b o e
      have nil : b ∉ frs ([] : List Env) := fun z => absurd (show b ∈ ([] : List Addr) from z) (by simp)
      rcases hO b with n | ⟨ob, xs, t⟩
      · exact un.keep b o e n nil (by simp)
      · have t1 : s.heap.get? b = some ob := (hok b _ t).1
        have t2 : s'.heap.get? b = some ob := (hok' b _ (un.frzs b ob _ t)).1
        rw [t1] at e
        rw [t2, Option.some.inj e]
    | next => exact False.elim h
    | brk => exact False.elim h
    | cont => exact False.elim h
/-- the law's end over a head by facts -/
theorem walk_ofL {l : PySem.W.OpenLaw} {n : Nat} {q : Program} {loose : List Str} {XP : (Str → Option Value) → Heap → Prop} {YP : World → Heap → Prop} {d : DefRec} {x : Str}
    (hn : l.most = some n) (hn2 : n ≤ sizeLine) (hdf : d.params.defaults = [])
    (F : ∀ (w : World) (mg : Str → Option Value) (fa : Addr) (h : Heap), YP w h → h.Ns mainGlobals mg → mg d.name = some (.ref fa) →
      ∃ (K : PySem.W.Frag) (fd : FuncData) (sp : Sp), K.In h ∧ (∀ (s : Shared) (u : Value), BindsTo s fd ⟨[u], []⟩ [(x, u)]) ∧
        (∀ (H : Hp) (a : Addr) (ns : List Int), ns.length ≤ n → Only H → SqL K H a (ns.map V.int) → sp [.ref a] H (fun v _ => v = .bl true) fun _ _ _ => False) ∧
        ∀ base : Heap, K.In base → base.Ns mainGlobals mg → FnL l.prog w K mg base fa fd [x] sp) :
    PySem.W.WalkO q loose XP YP l.row.toRowW d [] (fun f vs => PySem.call f vs) := by
  refine Att.attach_call hn hdf ?_
  intro w s₀ s₁ mg mb fa o pm cd doc a vs ns G Y ho hd hcd hmg hobj hints hlen hg
  obtain ⟨K, fd, sp, KX, hb, hsp, hF⟩ := F w mg fa _ Y G.T.g hmg
  have rv := vals_ints hints
  have lv := hints.length
  have go : ∀ H : Hp, Only H → (∀ c, c ≠ a → H c = none) → (H a = none ∨ K.lookup a = none) → HOk l.prog w H s₁.heap → SqL K H a (ns.map V.int) →
      codeAny (model l.prog w) callerA (.call (.ref fa) ⟨[.ref a], []⟩) (fun r s' => r = .ok (.ret (.bool true)) ∧ OldK s₁.heap s'.heap ∧ s'.os = s₁.os ∧ AllBare s'.gens) s₁ := by
    intro H hO hA hK hok hS
    obtain ⟨e0, k1, k2⟩ := envL KX G.T.g G.T.b G.T.builtins G.T.nolimit hg hobj hA hK hok
    exact codeAny_mono ((hF _ k1 k2).run s₁ H _ [.ref a] [.ref a] _ e0 (hb s₁ (.ref a)) (.cons rfl .nil) (hsp H a ns hlen hO hS)) fun r s' z => endL hok hO z
  by_cases hk : K.lookup a = none
  · refine go (upd (fun _ => none) a (.frz { cls := .type "list", data := .seq vs.toArray } (.lst (ns.map V.int)))) (fun b => ?_) (fun c hc => upd_ne hc) (.inr hk) (fun b u z => ?_) (.inl (.inr ⟨_, upd_same⟩))
    · by_cases hb : b = a
      · exact .inr ⟨_, _, by rw [hb]; exact upd_same⟩
      · exact .inl (upd_ne hb)
    · by_cases hb : b = a
      · subst hb
        rw [upd_same] at z
        cases z
        exact ⟨hobj, by rw [List.length_map]; omega, vs, _, rv, hobj⟩
      · rw [upd_ne hb] at z
        cases z
  · obtain ⟨o', hk'⟩ := Option.ne_none_iff_exists'.mp hk
    have e := KX a o' hk'
    rw [hobj] at e
    cases e
    exact go (fun _ => none) (fun _ => .inl rfl) (fun _ _ => rfl) (.inl rfl) (fun _ _ z => by cases z) (.inr ⟨_, vs.toArray, _, hk', rfl, rfl, rfl, by rw [List.size_toArray]; omega, by simpa using rv⟩)
/-! ### repr of nested data -/
/-- a dict's key as data -/
def kD : Key → PyData
  | .inl i => .int i
  | .inr x => .str x
def zipK : List (Key × V) → List PyData → List (PyData × PyData)
  | (k, _) :: r, d :: ds => (kD k, d) :: zipK r ds
  | _, _ => []
theorem zipK_keys : ∀ {kvs : List (Key × V)} {ds : List PyData}, ds.length = kvs.length → (zipK kvs ds).map (·.1) = kvs.map fun p => kD p.1
  | [], [], _ => rfl
  | (k, v) :: r, d :: ds, h => by
    show kD k :: (zipK r ds).map (·.1) = kD k :: r.map fun p => kD p.1
    rw [zipK_keys (by simpa using h)]
  | [], _ :: _, h => by simp at h
  | _ :: _, [], h => by simp at h
theorem zipK_vals : ∀ {kvs : List (Key × V)} {ds : List PyData}, ds.length = kvs.length → (zipK kvs ds).map (·.2) = ds
  | [], [], _ => rfl
  | (k, v) :: r, d :: ds, h => by
    show d :: (zipK r ds).map (·.2) = d :: ds
    rw [zipK_vals (by simpa using h)]
  | [], _ :: _, h => by simp at h
  | _ :: _, [], h => by simp at h
mutual
/-- what stands at v in H, as data -/
inductive Shw (H : Hp) : V → PyData → Prop
  | non : Shw H .non .none
  | bl (b : Bool) : Shw H (.bl b) (.bool b)
  | int (i : Int) : Shw H (.int i) (.int i)
  | str (x : Str) : Shw H (.str x) (.str x)
  | lst {a : Addr} {xs : List V} {ds : List PyData} : Rd H a (.lst xs) → ShwA H xs ds → Shw H (.ref a) (.list ds)
  | tup {a : Addr} {xs : List V} {ds : List PyData} : H a = some (.tup xs) → ShwA H xs ds → Shw H (.ref a) (.tuple ds)
  | dK {a : Addr} {kvs : List (Key × V)} {ds : List PyData} : Rd H a (.dK kvs) → ShwA H (kvs.map (·.2)) ds → Shw H (.ref a) (.dict (zipK kvs ds))
inductive ShwA (H : Hp) : List V → List PyData → Prop
  | nil : ShwA H [] []
  | cons {v : V} {d : PyData} {vs : List V} {ds : List PyData} : Shw H v d → ShwA H vs ds → ShwA H (v :: vs) (d :: ds)
end
theorem ShwA.len {H : Hp} : ∀ {vs : List V} {ds : List PyData}, ShwA H vs ds → ds.length = vs.length
  | _, _, .nil => rfl
  | _, _, .cons _ r => by simp [r.len]
theorem ReadsAll.app1 {h : Heap} : ∀ {us : List Value} {ds : List PyData}, (∀ p ∈ us.zip ds, Reads h p.1 p.2 []) → us.length = ds.length → ReadsAll h us ds []
  | [], [], _, _ => .nil
  | u :: us, d :: ds, k, l => ReadsAll.cons (as := []) (bs := []) (k (u, d) (by simp)) (app1 (fun p hp => k p (by simp [hp])) (by simpa using l))
  | [], _ :: _, _, l => by simp at l
  | _ :: _, [], _, l => by simp at l
theorem keysRead {P : Program} {w : World} {h : Heap} : ∀ {es : List DictEntry} {vs : List (Key × Value)}, Pairs (mixKind P w) es vs → ReadsAll h (es.map (·.key)) (vs.map fun p => kD p.1) [] ∧ es.map (·.val) = vs.map (·.2)
  | _, _, .nil => ⟨.nil, rfl⟩
  | _, _, .cons (e := e) (kv := kv) hk hv r => by
    obtain ⟨i1, i2⟩ := keysRead r
    refine ⟨ReadsAll.cons (as := []) (bs := []) ?_ i1, by rw [List.map_cons, List.map_cons, i2, hv]⟩
    obtain ⟨k, v⟩ := kv
    rcases keyIs_shape hk with ⟨i, t, e1, e2⟩ | ⟨x, t, e1, e2⟩
    · have e1' : k = Sum.inl i := e1
      subst e1'
      show Reads h e.key _ []
      rw [e2]
      exact Reads.int i t
    · have e1' : k = Sum.inr x := e1
      subst e1'
      show Reads h e.key _ []
      rw [e2]
      exact Reads.str x t
theorem kv_keys : ∀ {kvs : List (Key × V)} {vs : List (Key × Value)}, KV kvs vs → vs.map (fun p => kD p.1) = kvs.map (fun p => kD p.1) ∧ Vals (kvs.map (·.2)) (vs.map (·.2))
  | _, _, .nil => ⟨rfl, .nil⟩
  | _, _, .cons r t => by
    obtain ⟨i1, i2⟩ := kv_keys t
    exact ⟨by rw [List.map_cons, List.map_cons, i1, r.1], .cons r.2 i2⟩
mutual
theorem Shw.reads {P : Program} {w : World} {H : Hp} {h : Heap} (ok : HOk P w H h) : ∀ {v : V} {d : PyData}, Shw H v d → ∀ {u : Value}, RelV v u → ∃ as, Reads h u d as ∧ ∀ b ∈ as, H b ≠ none
  | _, _, .non, u, r => by
    obtain rfl : u = Value.none := r
    exact ⟨[], .none, fun b hb => by cases hb⟩
  | _, _, .bl b, u, r => by
    obtain rfl : u = Value.bool b := r
    exact ⟨[], .bool b, fun b hb => by cases hb⟩
  | _, _, .int i, u, r => by
    obtain ⟨t, rfl⟩ := r
    exact ⟨[], .int i t, fun b hb => by cases hb⟩
  | _, _, .str x, u, r => by
    obtain ⟨t, rfl⟩ := r
    exact ⟨[], .str x t, fun b hb => by cases hb⟩
  | _, _, .lst (a := a) (xs := xs) ha hs, u, r => by
    obtain rfl : u = Value.ref a := r
    obtain ⟨_, its, n, rv, hg⟩ := ha.ok ok
    obtain ⟨as, hr, hn⟩ := ShwA.reads ok hs rv
    refine ⟨a :: as, .list hg rfl rfl hr, fun b hb => ?_⟩
    rcases List.mem_cons.mp hb with rfl | hb
    · rcases ha with z | ⟨o, z⟩ <;> rw [z] <;> simp
    · exact hn b hb
  | _, _, .tup (a := a) ha hs, u, r => by
    obtain rfl : u = Value.ref a := r
    obtain ⟨_, its, rv, o, hg, hc, n, hd⟩ := ok a _ ha
    obtain ⟨as, hr, hn⟩ := ShwA.reads ok hs rv
    exact ⟨as, .tuple hg hc hd hr, hn⟩
  | _, _, .dK (a := a) (kvs := kvs) ha hs, u, r => by
    obtain rfl : u = Value.ref a := r
    obtain ⟨_, _, vs, rel, o, es, ep, hg, hx, hd, _, hp, _⟩ := ha.ok ok
    obtain ⟨k1, k2⟩ := keysRead (h := h) hp
    obtain ⟨k3, k4⟩ := kv_keys rel
    obtain ⟨as, hr, hn⟩ := ShwA.reads ok hs k4
    refine ⟨a :: [] ++ as, .dict hg hx.1 hd ?_ ?_, fun b hb => ?_⟩
    · rw [zipK_keys (by rw [hs.len, List.length_map]), ← k3]
      exact k1
    · rw [zipK_vals (by rw [hs.len, List.length_map]), k2]
      exact hr
    · rcases List.mem_cons.mp hb with rfl | hb
      · rcases ha with z | ⟨o, z⟩ <;> rw [z] <;> simp
      · exact hn b hb
theorem ShwA.reads {P : Program} {w : World} {H : Hp} {h : Heap} (ok : HOk P w H h) : ∀ {vs : List V} {ds : List PyData}, ShwA H vs ds → ∀ {us : List Value}, Vals vs us → ∃ as, ReadsAll h us ds as ∧ ∀ b ∈ as, H b ≠ none
  | _, _, .nil, us, r => by
    cases r
    exact ⟨[], .nil, fun b hb => by cases hb⟩
  | _, _, .cons hv hs, us, r => by
    cases r with
    | cons r1 r2 =>
      obtain ⟨as, h1, n1⟩ := Shw.reads ok hv r1
      obtain ⟨bs, h2, n2⟩ := ShwA.reads ok hs r2
      exact ⟨as ++ bs, .cons h1 h2, fun b hb => (List.mem_append.mp hb).elim (n1 b) (n2 b)⟩
end
theorem rd_same {H H' : Hp} {a : Addr} {u : HO} (s : L2.Same H H') (h : Rd H a u) : Rd H' a u := h.imp (s _ _) fun ⟨o, h⟩ => ⟨o, s _ _ h⟩
mutual
theorem Shw.same {H H' : Hp} (s : L2.Same H H') : ∀ {v : V} {d : PyData}, Shw H v d → Shw H' v d
  | _, _, .non => .non
  | _, _, .bl b => .bl b
  | _, _, .int i => .int i
  | _, _, .str x => .str x
  | _, _, .lst h hs => .lst (rd_same s h) (ShwA.same s hs)
  | _, _, .tup h hs => .tup (s _ _ h) (ShwA.same s hs)
  | _, _, .dK h hs => .dK (rd_same s h) (ShwA.same s hs)
theorem ShwA.same {H H' : Hp} (s : L2.Same H H') : ∀ {vs : List V} {ds : List PyData}, ShwA H vs ds → ShwA H' vs ds
  | _, _, .nil => .nil
  | _, _, .cons h hs => .cons (Shw.same s h) (ShwA.same s hs)
end
theorem vals_of1 {x : V} {us : List Value} (r : Vals [x] us) : ∃ u, us = [u] ∧ RelV x u := vals1 r
/-- repr(x) -/
def rRepr : List V → Hp → VK → Prop := fun xs H Q => ∃ (v : V) (d : PyData), xs = [v] ∧ Shw H v d ∧ d.showable = true ∧ d.depth ≤ 64 ∧ d.shown.length ≤ sizeLine ∧ Q (.str d.shown) H
theorem call_repr {X : Cx} (hg : X.A.guards = some []) (hu : X.A.units + 100 < cLine) (hm : (X.K.lookup sysModules).isSome = true) : CallR X (.builtin "repr") rRepr := by
  intro pins s σ H xs us Q I r h
  obtain ⟨v, d, rfl, sh, hs, hd, hz, q⟩ := h
  obtain ⟨u, rfl, ru⟩ := vals1 r
  have deep : ∀ a, v = .ref a → wpAny (model X.prog X.w) X.A (call (.builtin "repr") [u]) (EP X pins σ Q) X.xe s := by
    rintro a rfl
    obtain rfl : u = Value.ref a := ru
    obtain ⟨as, hr, hn⟩ := sh.reads I.hok rfl
    obtain ⟨o, ho⟩ := Option.isSome_iff_exists.mp hm
    have nm : sysModules ∉ as := fun z => hn _ z (I.bs _ _ (I.mod.kin _ _ ho)).2
    exact repr_of_reads' hr hs (fun _ => nm) hg (by omega) (fun _ _ e => e) (fun h' u tk k => ⟨.str _, H, I.kept k, ⟨_, rfl⟩, q⟩) hz
  cases sh with
  | non =>
    obtain rfl : u = Value.none := ru
    exact PySem.P.repr_of_none ⟨.str _, H, I.tok _, ⟨_, rfl⟩, q⟩
  | bl b =>
    obtain rfl : u = Value.bool b := ru
    exact PySem.P.repr_of_bool ⟨.str _, H, I.tok _, ⟨_, rfl⟩, q⟩
  | int i =>
    obtain ⟨t, rfl⟩ := ru
    exact PySem.P.repr_of_int (of_decide_eq_true hs) ⟨.str _, H, I.tok _, ⟨_, rfl⟩, q⟩
  | str x =>
    obtain ⟨t, rfl⟩ := ru
    exact PySem.P.repr_of_str ⟨.str _, H, I.tok _, ⟨_, rfl⟩, q⟩ hz
  | lst _ _ => exact deep _ rfl
  | tup _ _ => exact deep _ rfl
  | dK _ _ => exact deep _ rfl
/-- small data -/
structure Sm (B : Nat) (d : PyData) : Prop where
  sh : d.showable = true
  dp : d.depth ≤ 5
  ln : d.shown.length ≤ B
theorem Sm.mono {B C : Nat} {d : PyData} (h : Sm B d) (hb : B ≤ C) : Sm C d := ⟨h.sh, h.dp, Nat.le_trans h.ln hb⟩
/-- a list's or tuple's own data out of its items' -/
theorem items_of {H : Hp} {B : Nat} : ∀ {xs : List V}, (∀ y ∈ xs, ∃ d, Shw H y d ∧ d.showable = true ∧ d.depth ≤ 4 ∧ d.shown.length ≤ B) → ∃ ds, ShwA H xs ds ∧ PyData.showableAll ds = true ∧ PyData.depthAll ds ≤ 4 ∧ ((PyData.shownAll ds).map (·.length)).sum ≤ xs.length * B ∧ (PyData.shownAll ds).length = xs.length
  | [], _ => ⟨[], .nil, rfl, Nat.zero_le _, Nat.zero_le _, rfl⟩
  | y :: r, h => by
    obtain ⟨d, h1, h2, h3, h4⟩ := h y List.mem_cons_self
    obtain ⟨ds, g1, g2, g3, g4, g5⟩ := items_of fun z hz => h z (List.mem_cons_of_mem _ hz)
    refine ⟨d :: ds, .cons h1 g1, ?_, ?_, ?_, ?_⟩
    · show (d.showable && PyData.showableAll ds) = true
      rw [h2, g2]; rfl
    · show max d.depth (PyData.depthAll ds) ≤ 4
      omega
    · show ((d.shown :: PyData.shownAll ds).map (·.length)).sum ≤ (r.length + 1) * B
      rw [List.map_cons, List.sum_cons, Nat.succ_mul]
      omega
    · show (d.shown :: PyData.shownAll ds).length = _
      rw [List.length_cons, List.length_cons, g5]
theorem row_shw {H : Hp} {B : Nat} {a : Addr} {xs : List V} (ha : Rd H a (.lst xs) ∨ H a = some (.tup xs)) (h : ∀ y ∈ xs, ∃ d, Shw H y d ∧ d.showable = true ∧ d.depth ≤ 4 ∧ d.shown.length ≤ B) : ∃ d, Shw H (.ref a) d ∧ Sm (xs.length * (B + 2) + 3) d := by
  obtain ⟨ds, g1, g2, g3, g4, g5⟩ := items_of h
  have key : ((PyData.shownAll ds).map (·.length)).sum + 2 * (PyData.shownAll ds).length + 3 ≤ xs.length * (B + 2) + 3 := by
    rw [g5, Nat.mul_add]
    omega
  rcases ha with ha | ha
  · exact ⟨_, .lst ha g1, g2, by show PyData.depthAll ds + 1 ≤ 5; omega, Nat.le_trans (listText_len_le _) key⟩
  · exact ⟨_, .tup ha g1, g2, by show PyData.depthAll ds + 1 ≤ 5; omega, Nat.le_trans (tupleText_len_le _) key⟩
end Ox

/-! Own layer: defs that raise, own exceptions without __init__, try .. except X as e. -/
namespace Ox
open PySem PySem.Spec PyProof.Rows L2
/-- the module's name x is an own exception class at C, under ValueError, without own __init__ -/
structure Exc0 (K : PySem.W.Frag) (mg : Str → Option Value) (x : Str) (C : Addr) : Prop where
  gC : mg x = some (.ref C)
  xC : PySem.W.excIn K C veB "ValueError.__new__" = true
  kC : PySem.W.keepIn K (.ref C) = true
  bC : PySem.W.subIn K (.ref C) (.type "BaseException") = some true
  tC : PySem.W.typeIn K (.ref C) = some (.type "type")
theorem exc0F_ok {x : Str} {K : PySem.W.Frag} {mg : Str → Option Value} (g : mg x = some (.ref (He.ga K x))) (h : exc0F x K = true) : Exc0 K mg x (He.ga K x) := by
  obtain ⟨h1, h⟩ := Bool.and_eq_true_iff.mp h
  obtain ⟨h2, h⟩ := Bool.and_eq_true_iff.mp h
  obtain ⟨h3, h4⟩ := Bool.and_eq_true_iff.mp h
  exact ⟨g, h1, h2, of_decide_eq_true h3, of_decide_eq_true h4⟩
theorem excCF_ok {x : Str} {K : PySem.W.Frag} (h : excCF x K = true) : ExcC K (He.ga K x) := by
  obtain ⟨h1, h⟩ := Bool.and_eq_true_iff.mp h
  obtain ⟨h2, h⟩ := Bool.and_eq_true_iff.mp h
  obtain ⟨h3, h⟩ := Bool.and_eq_true_iff.mp h
  obtain ⟨h4, h5⟩ := Bool.and_eq_true_iff.mp h
  have t := xfB_ok h1
  exact ⟨t.ga, t.gg, t.exC, t.hdC, He.eqO_ok h2, He.eqO_ok h3, of_decide_eq_true h4, of_decide_eq_true h5⟩
theorem exmF_ok {C D : Str} {b : Bool} {K : PySem.W.Frag} (h : exmF C D b K = true) : PySem.W.exmOne K (.ref (He.ga K C)) (.ref (He.ga K D)) = some b := of_decide_eq_true h
theorem kitTF_ok {C : Str} {T : String} {b : Bool} {K : PySem.W.Frag} (h : kitTF C T b K = true) : PySem.W.kitOne K (.ref (He.ga K C)) (.type T) = some b := of_decide_eq_true h
/-! ### callees that may raise -/
section
variable (P : Program) (w : World) (K : PySem.W.Frag) (mg : Str → Option Value) (base : Heap)
structure CalX (k : Nat) (x : Str) (ps : List Str) (sp : Sp) : Prop where
  ex : ∃ f fd, FnOk P w K mg base (L2.CX P w) k f fd ps sp ∧ mg x = some (.ref f) ∧ PySem.W.keepIn K (.ref f) = true ∧ Binds K fd ps []
structure MetX (C : Addr) (k : Nat) (m : Str) (ps : List Str) (sp : Sp) : Prop where
  ex : ∃ f fd, Meth K C m f ∧ FnOk P w K mg base (L2.CX P w) k f fd ps sp ∧ Binds K fd ps []
end
/-- a wish that nothing is let out -/
def W0 : WX := fun _ _ _ _ => False
theorem takesN {X : Cx} : Takes X W0 := takes0
section
variable {X : Cx} {k : Nat} {x : Str} {ps : List Str} {sp : Sp} {e : Expr} {es : List Expr} {t : TA} {pos p : Pos} {W : WX}
theorem pe_calX (c : CalX X.prog X.w X.K X.mg X.base k x ps sp) (hr : Room k X.A) (hg : Gl X x) (tk : Takes X W) (ha : PA X (e :: es) t)
    (hs : starEach (e :: es) X.env = (false, eval e X.env) :: starEach es X.env := by rfl) (hp : (backTo pos (starEach es X.env)).any (·.1) = false := by rfl)
    (hdb : (x == ("__debug__" : Str)) = false := by decide) : PE X (.Call (.Name x p) (e :: es) [] pos) (tCallS sp (WE W) t) := by
  obtain ⟨f, fd, F, g, kp, b⟩ := c.ex
  exact pe_callS F hr hg g kp b (fun σ => passAt tk σ) ha hdb hs hp
/-- X() -/
theorem pmk_own0 {C : Addr} (c : Exc0 X.K X.mg x C) (hg : Gl X x) (hdb : (x == ("__debug__" : Str)) = false := by decide) :
    PMk X (.Call (.Name x p) [] [] pos) (fun _ H Q => Q (.ref C) none H) := by
  intro pins s σ H Q I h
  refine wpAny_Call_Name_kw (ld_glob I hg c.gC ?_ hdb)
  refine PySem.W.callWith_K0 I.kIn c.kC ?_
  show wpAny _ _ (call (.ref C) []) _ _ _
  obtain ⟨bm, N, nm, qn, bs, hdct, sn, sub, ab, col, dd, k0, k1, k2, k3, k5, mN, hC, hN, hni, T⟩ := exc_obj I.kIn c.xC
  refine wpAny_call_exc_subT PySem.F.excBase_ValueError T hC hN hni (fun h' e hm => ?_) (Nat.zero_le _)
  exact mk_of I hm (raises_own c.bC c.tC) h (I.hok.gone hm.new)
/-- raise X() -/
def tRaise0 (C : Addr) (W : WX) : TS := fun _ σ H => W (.ref C) none σ H
theorem ps_raise0 {C : Addr} {pos2 : Pos} (hc : X.calm = true) (tk : Takes X W) (c : Exc0 X.K X.mg x C) (hg : Gl X x) (hdb : (x == ("__debug__" : Str)) = false := by decide) :
    PS X (.Raise (some (.Call (.Name x p) [] [] pos)) none pos2) (tRaise0 C W) := ps_raise hc tk (pmk_own0 c hg hdb)
/-- the same reading in another word -/
theorem psEq {b : List Stmt} {u v : TS} (h : PSs X b u) (e : v = u := by rfl) : PSs X b v := by
  rw [e]
  exact h
end
section
variable {σ : L2.St} {H : Hp} {Q : VK} {D : Ends} {W : WX} {sp : Sp} {E : L2.St → XK} {t : TA} {C : Addr} {K : PySem.W.Frag}
theorem x_callS (q : t σ H fun vs H1 => sp vs H1 Q (E σ)) : tCallS sp E t σ H Q := q
theorem x_raise0 (q : W (.ref C) none σ H) : tRaise0 C W D σ H := q
end
/-! ### try .. except X as n -/
/-- its reading -/
def tTry (K : PySem.W.Frag) (c : Value) (i : Nat) (tb : WX → TS) (ts : Addr → Value → Option Addr → TS) (Wout : WX) : TS := fun D σ H => tb (wAs K c i ts Wout D) D σ H
/-- the ends of a suite whose name goes -/
def sEnds (i : Nat) (D : Ends) : Ends := { nx := fun σ' H' => D.nx (σ'.set i none) H', rt := D.rt, bk := fun σ' H' => D.bk (σ'.set i none) H', ct := fun σ' H' => D.ct (σ'.set i none) H' }
section
variable {σ : L2.St} {H : Hp} {D : Ends} {K : PySem.W.Frag} {c cls : Value} {d : Option Addr} {i : Nat} {tb : WX → TS} {ts : Addr → Value → Option Addr → TS} {Wout : WX}
theorem x_try (q : tb (wAs K c i ts Wout D) D σ H) : tTry K c i tb ts Wout D σ H := q
/-- caught -/
theorem x_caught (e : PySem.W.exmOne K cls c = some true) (q : ∀ a, H a = none → ts a cls d (sEnds i D) (σ.set i (some (.ref a))) H) : wAs K c i ts Wout D cls d σ H :=
  ⟨true, e, fun _ a ha => q a ha, fun z => nomatch z⟩
theorem x_caughtE (e : PySem.W.exmOne K cls c = some true) (q : ∀ a, H a = none → ts a cls d (sEnds i D) (σ.set i (some (.ref a))) H) : WE (wAs K c i ts Wout D) σ cls d H := x_caught e q
end
section
variable {X : Cx} {x n : Str} {c : Value} {i : Nat} {body suite : List Stmt} {b₀ : Stmt} {np pos pos' : Pos} {tb : WX → TS} {ts : Addr → Value → Option Addr → TS} {Wout : WX}
theorem ps_tryAs (hN : X.N.Nodup) (hs : X.stack = X.env :: X.outer) (hf : X.env.frame = some X.env.locals) (hi : X.N[i]? = some n) (hln : X.env.kindOf n = some .local) (hg : Gl X x) (hm : X.mg x = some c) (tk : Takes X Wout)
    (hb : ∀ (W : WX) (pn : List (Addr × Obj)) (xe : Value → Shared → Prop), Takes (X.tr pn xe) W → PassesOwn (model X.prog X.w) X.A X.env xe → PSs (X.tr pn xe) body (tb W))
    (hsu : ∀ (a : Addr) (oe : Obj) (cls : Value) (d : Option Addr) (pn : List (Addr × Obj)), Zc cls d oe → (∃ vs, oe.data = .fields vs) → PSs (X.suite a ((a, oe) :: pn)) (b₀ :: suite) (ts a cls d)) (hdb : (x == ("__debug__" : Str)) = false := by decide) :
    PS X (.Try body [.ExceptHandler (some (.Name x np)) (some n) (b₀ :: suite) pos'] [] [] pos) (tTry X.K c i tb ts Wout) :=
  ps_try_as hs hf hN hi hln ⟨hg, hdb, .inl hm⟩ tk hb hsu
end
/-! ### isinstance(e, C), e the caught one -/
def rIsX (K : PySem.W.Frag) (a : Addr) (cls : Value) (d : Option Addr) : List V → Hp → VK → Prop := fun xs H Q => ∃ D, cls = .ref D ∧ d = none ∧ ExcC K D ∧ rIsE K D a xs H Q
theorem call_isX {X : Cx} {a : Addr} {cls : Value} {d : Option Addr} {oe : Obj} {pn : List (Addr × Obj)} (hz : Zc cls d oe) (hf : ∃ vs, oe.data = .fields vs) : CallR (X.suite a ((a, oe) :: pn)) (.builtin "isinstance") (rIsX X.K a cls d) := by
  intro pins s σ H xs us Q I r h
  obtain ⟨D, rfl, rfl, hC, h⟩ := h
  exact call_isE hC hz hf pins s σ H xs us Q I r h
section
variable {H : Hp} {Q : VK} {K : PySem.W.Frag} {a D C : Addr} {b : Bool}
theorem x_isX (hC : ExcC K D) (e : PySem.W.kitOne K (.ref D) (.ref C) = some b) (q : Q (.bl b) H) : rIsX K a (.ref D) none [.ref a, .ref C] H Q :=
  ⟨D, rfl, rfl, hC, _, _, _, rfl, fun u r => r, e, q⟩
theorem x_isXT {T : String} (hC : ExcC K D) (e : PySem.W.kitOne K (.ref D) (.type T) = some b) (q : Q (.bl b) H) : rIsX K a (.ref D) none [.ref a, .ty T] H Q :=
  ⟨D, rfl, rfl, hC, _, _, _, rfl, fun u r => r, e, q⟩
end
end Ox

/-! Own layer: own exceptions whose __init__ says super().__init__('..') and lays one field. -/
namespace PySem
namespace SupX
open PySem.W PySem.Calls PyProof.Rows PySem.HandSPX
def iA (y : Str) (p1 p2 : Pos) : Arguments := { posonlyargs := [], args := [{ arg := "self", annotation := none, pos := p1 }, { arg := y, annotation := none, pos := p2 }], vararg := none, kwonlyargs := [], kw_defaults := [], kwarg := none, defaults := [] }
def iB (y txt : Str) (q1 q2 q3 q4 q5 q6 q7 q8 q9 q10 : Pos) : List Stmt :=
  [.Expr (.Call (.Attribute (.Call (.Name "super" q1) [] [] q2) "__init__" q3) [.Constant (.str txt) 0 q4] [] q5) q6, .Assign [.Attribute (.Name "self" q7) y q8] (.Name y q9) q10]
def iS (y : Str) : Scope := { kind := .function, names := [(PySem.Str.ofString "self", .local), (y, .local), (PySem.Str.ofString "__class__", .free), (PySem.Str.ofString "super", .globalImplicit)], isGenerator := false, isCoroutine := false, more := [] }
/-- the fields that the text has -/
def Fld (y : Str) : Prop := y = "part" ∨ y = "name" ∨ y = "index" ∨ y = "most" ∨ y = "line"
structure SupTxt (P : Program) (K : Frag) (mg : Str → Option Value) (x y : Str) (C fI : Addr) : Prop where
  fld : Fld y
  gC : mg x = some (.ref C)
  noS : mg "super" = none
  cls : ∃ nm q N bs bm sn sub ab col dd k0 k1 k2 k3 k5, K.lookup C = some (excClassObj nm q C N bs bm true sn sub ab col dd k0 k1 k2 k3 k5 "ValueError.__new__") ∧ refsVE bm = true
  sa : findIn K (.ref C) "__setattr__" = some (some (.builtin "object.__setattr__"))
  ga : findIn K (.ref C) "__getattribute__" = some (some (.builtin "BaseException.__getattribute__"))
  gg : findIn K (.ref C) "__getattr__" = some none
  noN : findIn K (.ref C) y = some none
  iC : findIn K (.ref C) "__init__" = some (some (.ref fI))
  tC : typeIn K (.ref fI) = some (.type "function")
  kC : keepIn K (.ref C) = true
  exC : subIn K (.ref C) (.type "BaseException") = some true
  veC : subIn K (.ref C) (.type "ValueError") = some true
  mrC : mroIn K C (.ref C) = some true
  tyC : typeIn K (.ref C) = some (.type "type")
  hdC : hasDictIn K C = true
  opq : nsIn K cStatics "thirdparty.any" = some none
  sup : ks_superIn K C C "__init__" = some (some (.builtin "ValueError.__init__"))
  top : (P.main.scope.names.lookup ("super" : Str)).isSome = false
  fn : ∃ (oc : Value) (od : Option Addr) (kV doc pm : Value) (an : Option Addr) (cda : Addr) (ct : Value) (osl : Array (Option Value)) (qual txt : Str) (cc : Addr) (p1 p2 q1 q2 q3 q4 q5 q6 q7 q8 q9 q10 : Pos),
    K.lookup fI = some ⟨oc, od, .func (ksFn "__init__" qual (iA y p1 p2) (iB y txt q1 q2 q3 q4 q5 q6 q7 q8 q9 q10) (iS y) .none kV doc pm an (.ref cda) ct cc), osl⟩ ∧ codeIn K (.ref cda) qual = true ∧
    (∃ (ccl : Value) (cdd : Option Addr) (vs : Array Value) (ccs : Array (Option Value)) (file : Str) (tf : Tok), K.lookup cda = some ⟨ccl, cdd, .fields vs, ccs⟩ ∧ vs[2]? = some (.str file tf) ∧ ((P.main.file : Str) == file) = true) ∧
    (∃ (cl : Value) (cld : Option Addr) (csl : Array (Option Value)), K.lookup cc = some ⟨cl, cld, .cell (some (.ref C)), csl⟩) ∧ (q3.endLine == q5.line) = true
theorem one_size (v : Value) : [v].length ≤ sizeLine := by
  rw [sizeLine_eq]
  exact (by decide : 1 ≤ 16777216)
structure InitEnd (h h' : Heap) (x C dx t1 : Addr) (y : Str) (v : Value) : Prop where
  keep : ∀ b o, b ≠ x → h.get? b = some o → h'.get? b = some o
  obj : h'.get? x = some { cls := .ref C, dict := some dx, data := .fields #[.ref t1, .none, .none, .none, .bool false, .none] }
  dbig : h.objs.size ≤ dx
  dne : dx ≠ x
  ns : h'.Ns1 dx (fun z => if z = y then some v else none)
structure OwnMade (h h' : Heap) (e C d : Addr) (y : Str) (v : Value) : Prop where
  keep : ∀ b o, h.get? b = some o → h'.get? b = some o
  new : h.objs.size ≤ e
  obj : ∃ oe vs, h'.get? e = some oe ∧ oe.cls = .ref C ∧ oe.dict = some d ∧ oe.data = .fields vs ∧ vs[1]? = some .none
  dbig : h.objs.size ≤ d
  dne : d ≠ e
  ns : h'.Ns1 d (fun z => if z = y then some v else none)
theorem ld {M : Model} {A : Around} {E : Value → Shared → Prop} {s : Shared} {env : Env} {m : Str → Option Value} {x : Str} {pos : Pos} {v : Value} {Q : Value → Shared → Prop} (hn : s.heap.Ns env.locals m) (hv : m x = some v) (h : Q v s)
    (hk : env.scope.kind = .function := by rfl) (hl : env.kindOf x = some .local := by rfl) (hd : (x == ("__debug__" : Str)) = false := by decide) :
    wpAny M A (eval (.Name x pos) env) Q E s := wpAny_Name (wpAny_loadName_local hk hl hn hv h) hd
theorem call_eq {o a : Expr} {name : Str} {q3 q5 : Pos} {env : Env} (hline : (q3.endLine == q5.line) = true) (ha : starEach [a] env = [(false, eval a env)]) : eval (.Call (.Attribute o name q3) [a] [] q5) env = (do
      let ov ← attributeBase o name env (eval o env)
      standAt q3.atName
      let (f, first) ← holding [ov] (getMethod ov name (do return (← importBound o env).getD true))
      callWith q5 f first (backTo q5 (starEach [a] env)) []) := by
  show (do
    let ov ← attributeBase o name env (eval o env)
    standAt q3.atName
    methodCall o name q3 q5 env ov 1 (backTo q5 (starEach [a] env)) []) = _
  unfold methodCall methodCallPos calleeOf
  have hf : methodCallForm 1 (backTo q5 (starEach [a] env)) [] = true := by rw [ha]; rfl
  rw [hf, hline]
  rfl
section
variable {prog : Program} {w : World} {A : Around} {E : Value → Shared → Prop}
/-- the wrapper called: ValueError.__init__ of the object anew -/
theorem call_mw {h : Heap} {g : Array GenState} {d : Drawn} {t : Nat} {os : OsState} {nm q : Str} {C N : Addr} {bs bm : List Value} {hdct : Bool} {sn : List Str} {sub : List Value} {ab : Bool} {col : Option Bool} {dd : Option Addr} {k0 k1 k2 k3 k5 : Option Value}
    {u e t0 : Addr} {rest : List Value} {Q : Value → Shared → Prop}
    (hC : h.get? C = some (excClassObj nm q C N bs bm hdct sn sub ab col dd k0 k1 k2 k3 k5 "ValueError.__new__")) (he : h.get? e = some (excO C t0)) (hu : h.get? u = some (kxs_mw "ValueError.__init__" e)) (hrest : rest.length ≤ sizeLine)
    (hq : ∀ h' t1, (∀ b o, b ≠ e → h.get? b = some o → h'.get? b = some o) → h'.get? e = some (excO C t1) → Q .none ⟨h', g, d, t, os⟩) :
    wpAny (model prog w) A (call (.ref u) rest) Q E ⟨h, g, d, t, os⟩ := by
  refine wpAny_call (codeAny_of_tree ?_)
  show wpAny _ A.in1 (callAny (.ref u) ⟨rest, []⟩) _ _ _
  simp only [callAny]
  refine wpAny_bind (wpAny_load hu ?_)
  simp only [kxs_mw, show (Value.type "method-wrapper" == Value.type "method" || Value.type "method-wrapper" == Value.type "builtin_function_or_method" || Value.type "method-wrapper" == Value.type "method-wrapper") = true by decide, if_true]
  refine W.KFB.if_so (by decide) ?_
  refine wpAny_bind (check_bound_init F.excBase_ValueError.toExcCallFacts hC he rfl ?_)
  refine wpAny_bind (wpAny_pure (wpAny_pure ?_))
  refine ⟨plainId_quiet F.excBase_ValueError.init.plain _, codeAny_builtin F.excBase_ValueError.initEntry ?_⟩
  rw [Around.under_plainId F.excBase_ValueError.init.plain _]
  wp_walk
  refine hq _ h.objs.size (fun b o hb ho => ?_) ?_
  · rw [Heap.get?_update_other _ _ (Ne.symm hb)]
    exact Heap.get?_push_of_some _ ho
  · rw [Heap.get?_update_self _ (Heap.get?_push_of_some _ he) rfl]
    rfl
end
section
variable {prog : Program} {w : World} {A : Around} {E : Value → Shared → Prop} {R : Result → Shared → Prop} {s : Shared} {K : Frag} {mg : Str → Option Value} {x y : Str} {C fI : Addr}
theorem sup_init (T : SupTxt prog K mg x y C fI) {e t0 : Addr} {v : Value} (X : K.In s.heap) (hlim : s.heap.NoLimit) (hg : s.heap.Ns mainGlobals mg) (hb : ∃ mb, s.heap.Ns builtinsNs mb ∧ ∀ z : Str, z ≠ "__name__" → mb z = bootBuiltins z)
    (hx : s.heap.get? e = some (excO C t0)) (hnx : K.lookup e = none) (hroom : A.depth < recursionLimit)
    (hq : ∀ h' tk dx t1, InitEnd s.heap h' e C dx t1 y v → R (.ok (.ret .none)) { s with heap := h', toks := tk }) :
    codeAny (model prog w) A (.call (.ref fI) ⟨[.ref e, v], []⟩) R s := by
  obtain ⟨oc, od, kV, doc, pm, an, cda, ct, osl, qual, txt, cc, p1, p2, q1, q2, q3, q4, q5, q6, q7, q8, q9, q10, ho, hcd, ⟨ccl, cdd, vs, ccs, file, tf, hcda, hvs, hfile⟩, ⟨cl, cld, csl, hcc⟩, hline⟩ := T.fn
  obtain ⟨nm, q, N, bs, bm, sn, sub, ab, col, dd, k0, k1, k2, k3, k5, hC, hbm⟩ := T.cls
  have hcl : clsIn K C = some { name := nm, bases := bs, mro := .ref C :: bm, ns := N, qualname := q, hasDict := true, slotNames := sn, subclasses := sub, abstract := ab, collection := col, hasDel := false } := by unfold clsIn; rw [hC] <;> rfl
  have hsup := T.sup
  unfold ks_superIn at hsup
  rw [hcl] at hsup
  have noN := T.noN
  have fld := T.fld
  have sa := T.sa
  have veC := T.veC
  have mrC := T.mrC
  have opq := T.opq
  have noS := T.noS
  have top := T.top
  clear T
  rcases fld with rfl | rfl | rfl | rfl | rfl
  all_goals
    refine ks_codeAny_call_defAt (fd := ksFn "__init__" qual (iA _ p1 p2) (iB _ txt q1 q2 q3 q4 q5 q6 q7 q8 q9 q10) (iS _) .none kV doc pm an (.ref cda) ct cc) (body := iB _ txt q1 q2 q3 q4 q5 q6 q7 q8 q9 q10) (binds := [("self", .ref e), (_, v)]) hroom (X _ _ ho) rfl hlim (codeRec_of X hcd) rfl
      (BindsTo.of_eq (by first | rfl | with_unfolding_all rfl)) (by
        intro z hz
        have hz' : z ∈ (iS _).names := hz
        simp only [iS, List.mem_cons, List.not_mem_nil, or_false] at hz'
        rcases hz' with rfl | rfl | rfl | rfl <;> decide)
      (by
        intro z hz
        simp only [List.mem_cons, List.not_mem_nil, or_false] at hz
        rcases hz with rfl | rfl <;> first | rfl | decide | decide +kernel) (fun h₁ hn k => ?_) rfl rfl rfl
    obtain ⟨hp, g, d, t, os⟩ := s
    have X₁ : K.In h₁ := X.keeps k
    have hx₁ := k _ _ hx
    have hL : hp.objs.size ≠ e := Nat.ne_of_gt (Heap.lt_size hx)
    refine ks_wpAt_execs_cons (ks_wpAt_Expr_any (ks_wpAt_MethodCall ?_ (call_eq hline rfl)))
    refine ks_wpAt_super_base (f := fI) (cc := cda) (by first | rfl | with_unfolding_all rfl) (by first | rfl | with_unfolding_all rfl) (by decide) rfl (X₁ _ _ ho) rfl (by rfl) rfl (X₁ _ _ hcda) rfl hvs hfile top ?_
    obtain ⟨mb, hmb, hmbv⟩ := hb
    refine ks_loadName_global rfl (by first | rfl | with_unfolding_all rfl) (loadGlobal_builtin (hg.keeps k) noS (hmb.keeps k) ((hmbv _ (by decide)).trans (by first | rfl | decide +kernel | kernel_rfl)) ⟨rfl, ?_⟩)
    refine wpAny_loadName_free rfl (by first | rfl | with_unfolding_all rfl) (by first | rfl | with_unfolding_all rfl) ⟨_, X₁ _ _ hcc, rfl⟩ ?_
    refine wpAny_loadName_local rfl (by first | rfl | with_unfolding_all rfl) hn (v := .ref e) (by first | rfl | with_unfolding_all rfl | kernel_rfl) ?_
    refine ks_wpAny_isType_cls (X₁ _ _ hC) rfl ⟨rfl, ?_⟩
    refine ks_wpAny_call_super (X₁ _ _ hC) rfl hx₁ rfl (fun c z => by cases z) (looks_mroIn X₁ mrC) (fun h₂ hso k₂ => ?_)
    have X₂ : K.In h₂ := X₁.keeps k₂
    have hx₂ := k₂ _ _ hx₁
    have hneC : e ≠ C := fun z => by rw [z, hC] at hnx; cases hnx
    have I₂ : InstAt h₂ e (excO C t0) C none := ⟨hx₂, rfl, rfl, trivial⟩
    refine kxs_getMethod kxs_ValueError hso (looks_opaque X₂ opq) (l₀ := .ref C :: bm) (fun A Q E s k q => wpAny_bind ((looks_clsIn X₂ hcl) A _ E s k (wpAny_pure q))) rfl X₂ hsup (I₂.type.andThen (looks_subIn X₂ veC)) hneC (by decide) ?_
    refine kxs_callWith (i := "ValueError.__init__") (x := e) (by rfl) (evalArgs_plain (spliced_cons (wpAny_Constant_str (k := 0) (pos := q4) (spliced_nil ⟨Heap.get?_push_at rfl rfl, ?_⟩))))
    have up : ∀ b o, h₂.get? b = some o → (h₂.push (kxs_mw "ValueError.__init__" e)).get? b = some o := fun b o z => Heap.get?_push_of_some _ z
    refine call_mw (up _ _ (X₂ _ _ hC)) (up _ _ hx₂) (Heap.get?_push_at rfl rfl) (one_size _) (fun h₃ t1 k₃ hx₃ => ?_)
    have kk : ∀ b o, b ≠ e → h₁.get? b = some o → h₃.get? b = some o := fun b o z q => k₃ b o z (up _ _ (k₂ _ _ q))
    have X₃ : K.In h₃ := fun a o q => kk a o (fun z => by rw [z, hnx] at q; cases q) (X₁ a o q)
    obtain ⟨oL, es, ep, hoL, rL⟩ := hn
    have hn₃ : h₃.Ns hp.objs.size _ := ⟨oL, es, ep, kk _ _ hL hoL, rL⟩
    show wpAt _ _ _ (execs _ _) _ _ _
    refine wpAt_of_wpAny ?_
    refine wpAny_execs_cons (plainObj_wpAny_Assign_Attribute ?_)
    refine ld (v := v) hn₃ (by first | rfl | with_unfolding_all rfl | kernel_rfl) (ld (v := .ref e) hn₃ (by first | rfl | with_unfolding_all rfl | kernel_rfl) ?_)
    refine set_plain X₃ (ox := excO C t1) (od := none) ⟨hx₃, rfl, rfl, trivial⟩ sa ?_
    refine exc_osa X₃ hx₃ hcl (show refsVE (.ref C :: bm) = true from hbm) rfl noN (fun h₄ tk₄ dx k₄ dn dne hx₄ hn₄ => ?_)
    refine wpAny_execs_nil (hq h₄ tk₄ dx t1 ⟨fun b o hb z => k₄ b o hb (kk b o hb (k b o z)), hx₄, ?_, dne, hn₄⟩)
    have z := Heap.lt_size (kk _ _ hL hoL)
    exact Nat.le_of_lt (Nat.lt_of_lt_of_le z dn)
theorem sup_made (T : SupTxt prog K mg x y C fI) {v : Value} (X : K.In s.heap) (hlim : s.heap.NoLimit) (hg : s.heap.Ns mainGlobals mg) (hb : ∃ mb, s.heap.Ns builtinsNs mb ∧ ∀ z : Str, z ≠ "__name__" → mb z = bootBuiltins z) (hroom : A.depth + 1 < recursionLimit)
    (hq : ∀ h' tk e d, OwnMade s.heap h' e C d y v → R (.ok (.ret (.ref e))) { s with heap := h', toks := tk }) :
    codeAny (model prog w) A (.call (.ref C) ⟨[v], []⟩) R s := by
  obtain ⟨nm, q, N, bs, bm, sn, sub, ab, col, dd, k0, k1, k2, k3, k5, hC, hbm⟩ := T.cls
  obtain ⟨hp, g, dr, tk, os⟩ := s
  have k : ∀ b o, hp.get? b = some o → ((hp.push (kdv_tup [v])).push (excO C hp.objs.size)).get? b = some o := fun b o e => Heap.get?_push_of_some _ (Heap.get?_push_of_some _ e)
  have hget : ((hp.push (kdv_tup [v])).push (excO C hp.objs.size)).get? (hp.objs.size + 1) = some (excO C hp.objs.size) := by heap_get
  have hnx : K.lookup (hp.objs.size + 1) = none := by
    cases e : K.lookup (hp.objs.size + 1) with
    | none => rfl
    | some o =>
      have z : hp.get? (hp.objs.size + 1) = some o := X _ _ e
      exact absurd (Nat.lt_of_succ_lt (Heap.lt_size z)) (Nat.lt_irrefl _)
  refine call_own F.excBase_ValueError (fun X => refsVE_contains X bm hbm) (X _ _ hC) (looks_findIn X T.iC) (fun self => bind_fn X self T.tC) (one_size v) ?_
  obtain ⟨mb, hmb, hmv⟩ := hb
  refine sup_init (s := ⟨(hp.push (kdv_tup [v])).push (excO C hp.objs.size), g, dr, tk, os⟩) T (X.keeps k) (hlim.keeps k) (hg.keeps k) ⟨mb, hmb.keeps k, hmv⟩ hget hnx ?_ fun h' tk' dx t1 ⟨k', hx, dn, dne, hns⟩ => ?_
  · show A.depth + 1 < recursionLimit
    exact hroom
  · have old : ∀ b o, hp.get? b = some o → h'.get? b = some o := fun b o e => k' b o (Nat.ne_of_lt (Nat.lt_succ_of_lt (Heap.lt_size e))) (k b o e)
    have z : hp.objs.size + 1 + 1 ≤ dx := by
      first
        | (simpa only [Heap.size_push] using dn)
        | exact dn
        | (have q := dn; rw [Heap.size_push, Heap.size_push] at q; exact q)
    exact ⟨rfl, hq h' tk' (hp.objs.size + 1) dx ⟨old, Nat.le_succ _, ⟨_, _, hx, rfl, rfl, rfl, rfl⟩, Nat.le_trans (Nat.le_trans (Nat.le_succ _) (Nat.le_succ _)) z, dne, hns⟩⟩
end
end SupX
end PySem
namespace Ox
open PySem PySem.Spec PyProof.Rows L2
theorem relO_one {y : Str} {v : V} {v' : Value} (r : RelV v v') (f : Str) : RelO (List.lookup f [(y, v)]) (if f = y then some v' else none) := by
  by_cases hw : f = y
  · subst hw
    rw [if_pos rfl]
    have q : List.lookup f [(f, v)] = some v := by simp [List.lookup]
    rw [q]
    exact r
  · rw [if_neg hw]
    have qw : (f == y) = false := by simpa using hw
    have q2 : List.lookup f [(y, v)] = none := by simp [List.lookup, qw]
    rw [q2]
    trivial
section
variable {X : Cx} {x y : Str} {C fI : Addr}
/-- the class x, its own field y -/
structure ExcF (P : Program) (K : PySem.W.Frag) (mg : Str → Option Value) (x y : Str) (C : Addr) : Prop where
  ex : ∃ fI, PySem.SupX.SupTxt P K mg x y C fI
/-- X(e) -/
def tMkS (C : Addr) (y : Str) (ta : TA) : L2.St → Hp → XK → Prop := fun σ H Q => ta σ H fun vs H1 => ∃ v, vs = [v] ∧ ∀ d, H1 d = none → Q (.ref C) (some d) (upd H1 d (.xd [(y, v)]))
theorem pmk_sup {a : Expr} {ta : TA} {p pos : Pos} {k : Nat} (T : ExcF X.prog X.K X.mg x y C) (hr : Room k X.A) (ha : PA X [a] ta) (hg : Gl X x)
    (hdb : (x == ("__debug__" : Str)) = false := by decide) (he : starEach (a :: []) X.env = (false, eval a X.env) :: starEach [] X.env := by rfl) (hpl : (backTo pos (starEach [] X.env)).any (·.1) = false := by rfl) :
    PMk X (.Call (.Name x p) [a] [] pos) (tMkS C y ta) := by
  obtain ⟨fI, T⟩ := T.ex
  intro pins s σ H Q I h
  refine wpAny_Call_Name_kw (ld_glob I hg T.gC ?_ hdb)
  refine PySem.W.callWith_K (h₀ := X.base) I.ok.mod.kin T.kC (thn (ha.run pos pins s σ H _ I h) fun us s1 hh => ?_) he hpl
  obtain ⟨vs, H1, I1, r1, v, ev, q1⟩ := hh
  subst ev
  refine ⟨I1.kIn, ?_⟩
  cases r1 with
  | cons rv rn =>
    rename_i v' us'
    cases rn
    show wpAny _ _ (call (.ref C) [v']) _ _ _
    have hlim := I1.nolimit
    obtain ⟨mb, hmb, hmv⟩ := I1.mod.blt
    have hbl : ∃ mb, s1.heap.Ns builtinsNs mb ∧ ∀ z : Str, z ≠ "__name__" → mb z = bootBuiltins z := ⟨mb, hmb.keeps I1.bk, hmv⟩
    have hgl : s1.heap.Ns mainGlobals X.mg := I1.mod.glob.keeps I1.bk
    obtain ⟨hp, g, dr, tk, os⟩ := s1
    refine wpAny_call (PySem.SupX.sup_made T I1.kIn hlim hgl hbl (by have := hr.dp; omega) fun h' tk' e d M => ?_)
    show MkP X pins σ Q (.ref e) ⟨h', g, dr, tk', os⟩
    obtain ⟨oe, fv, hoe, hc, hd, hdat, h1⟩ := M.obj
    have hns := M.ns
    obtain ⟨G', g1, g2⟩ := restrict h' fun b => decide (b ≠ e)
    have gk : ∀ b, b ≠ e → G'.get? b = h'.get? b := fun b hb => g1 b (decide_eq_true hb)
    have ge : G'.get? e = none := g2 e (by simp)
    have old : ∀ b o, hp.get? b = some o → G'.get? b = some o := fun b o q => (gk b (Nat.ne_of_lt (Nat.lt_of_lt_of_le (Heap.lt_size q) M.new))).trans (M.keep b o q)
    have ob : ObjOk X.prog X.w (upd H1 d (.xd [(y, v)])) G' d (.xd [(y, v)]) :=
      ⟨_, hns.at (fun o q => (gk d M.dne).trans q), fun f => relO_one rv f⟩
    have J : Inv X pins σ (upd H1 d (.xd [(y, v)])) ⟨G', g, dr, tk', os⟩ := I1.laid (t' := tk') old M.dbig ob
    refine ⟨e, oe, fv, ⟨G', g, dr, tk', os⟩, _, .ref C, some d, rfl, J, fun b o q => ?_, ge, hoe, ⟨hc, hd⟩, hdat, h1, ?_, rfl, I1.bare, raises_own T.exC T.tyC, q1 d (I1.hok.fresh M.dbig)⟩
    · by_cases hb : b = e
      · have q' : G'.get? b = some o := q
        rw [hb, ge] at q'; cases q'
      · exact (gk b hb).symm.trans q
    · rw [upd_ne (Ne.symm M.dne)]
      exact I1.hok.fresh M.new
/-- raise X(e) -/
def tRaiseS (C : Addr) (y : Str) (W : WX) (ta : TA) : TS := fun _ σ H => tMkS C y ta σ H fun cls d H' => W cls d σ H'
theorem ps_raiseS {a : Expr} {ta : TA} {W : WX} {p pos pos2 : Pos} {k : Nat} (hc : X.calm = true) (tk : Takes X W) (T : ExcF X.prog X.K X.mg x y C) (hr : Room k X.A) (hg : Gl X x) (ha : PA X [a] ta) (hdb : (x == ("__debug__" : Str)) = false := by decide)
    (he : starEach (a :: []) X.env = (false, eval a X.env) :: starEach [] X.env := by rfl) (hpl : (backTo pos (starEach [] X.env)).any (·.1) = false := by rfl) :
    PS X (.Raise (some (.Call (.Name x p) [a] [] pos)) none pos2) (tRaiseS C y W ta) := ps_raise hc tk (pmk_sup T hr ha hg hdb he hpl)
/-- the exceptions that a read of the field y fits: its class told of the written part -/
structure ExcG (K : PySem.W.Frag) (C : Addr) (y : Str) : Prop where
  ga : PySem.W.findIn K (.ref C) "__getattribute__" = some (some (.builtin "BaseException.__getattribute__"))
  gg : PySem.W.findIn K (.ref C) "__getattr__" = some none
  exC : PySem.W.subIn K (.ref C) (.type "BaseException") = some true
  hdC : PySem.W.hasDictIn K C = true
  noN : PySem.W.findIn K (.ref C) y = some none
/-- e.y, e the exception that the suite holds (at a; its class cls, its dict d) -/
def tByS (K : PySem.W.Frag) (y : Str) (a : Addr) (cls : Value) (d : Option Addr) (te : TE) : TE := fun σ H Q => te σ H fun x H1 => x = .ref a ∧ ∃ (C dd : Addr) (v : V), cls = .ref C ∧ ExcG K C y ∧ d = some dd ∧ H1 dd = some (.xd [(y, v)]) ∧ Q v H1
theorem pe_byS {a : Addr} {oe : Obj} {cls : Value} {d : Option Addr} {pn : List (Addr × Obj)} {e : Expr} {te : TE} {pos : Pos} (hz : Zc cls d oe) (hf : ∃ vs, oe.data = .fields vs) (he : PE (X.suite a ((a, oe) :: pn)) e te)
    (hb : attributeBase e y X.env (eval e X.env) = eval e X.env := by rfl) :
    PE (X.suite a ((a, oe) :: pn)) (.Attribute e y pos) (tByS X.K y a cls d te) := by
  refine ⟨fun pins s σ H Q I h => ?_⟩
  refine attr_of hb (thn (he.run pins s σ H _ I h) fun u s1 hh => ?_)
  obtain ⟨x, H1, I1, rx, ex, C, dd, v, ec, T, ed, ea, q⟩ := hh
  subst ex
  obtain rfl : u = Value.ref a := rx
  subst ec
  subst ed
  obtain ⟨ha, _⟩ := I1.pin (a, oe) (List.mem_append_left _ List.mem_cons_self)
  obtain ⟨vs, hd⟩ := hf
  have hx : ObjOk X.prog X.w H1 s1.heap dd (.xd [(y, v)]) := I1.hok dd _ ea
  obtain ⟨mA, hns, hr⟩ := hx
  obtain ⟨od, ho, hl⟩ := lookIn_ns hns
  have l : List.lookup y [(y, v)] = some v := by simp [List.lookup]
  obtain ⟨u, hu, ru⟩ := RelO.some_of (v := v) (o := mA y) (by rw [← l]; exact hr y)
  have J : PySem.W.InstAt s1.heap a oe C (some od) := ⟨ha, hz.1, by unfold PySem.W.notCls; rw [hd] <;> rfl, by rw [hz.2]; exact ho⟩
  exact HandSPX.exc_get I1.kIn J T.ga T.gg T.exC (PySem.W.findObj_own T.hdC T.noN rfl (by rw [hl, hu])) (handed_of ru) ⟨v, H1, I1.tok _, ru, q⟩
end
section
variable {σ : L2.St} {H : Hp} {W : WX} {D : Ends} {C : Addr} {y : Str} {K : PySem.W.Frag}
/-- raised -/
theorem x_raiseS {ta : TA} (q : ta σ H fun vs H1 => ∃ v, vs = [v] ∧ ∀ d, H1 d = none → W (.ref C) (some d) σ (upd H1 d (.xd [(y, v)]))) : tRaiseS C y W ta D σ H := q
end
end Ox

/-! Own layer: several except clauses, each with a name or without; == of sequences by place or by data. -/
namespace Ox
open PySem PySem.Spec PyProof.Rows L2
/-- a clause: its class, the slot of its name (if it has one), its suite's reading -/
structure Cl where
  c : Value
  nm : Option Nat
  ts : Addr → Value → Option Addr → TS
/-- what a clause that fits wishes -/
def Cl.hit (k : Cl) (D : Ends) : WX := fun cls d σ H => ∀ a, H a = none → match k.nm with
  | some i => k.ts a cls d (sEnds i D) (σ.set i (some (.ref a))) H
  | none => k.ts a cls d D σ H
/-- .. and one clause behind the other -/
def wCls (K : PySem.W.Frag) (Wout : WX) (D : Ends) : List Cl → WX
  | [] => Wout
  | k :: r => fun cls d σ H => ∃ b, PySem.W.exmOne K cls k.c = some b ∧ (b = true → k.hit D cls d σ H) ∧ (b = false → wCls K Wout D r cls d σ H)
/-- the clauses' text -/
inductive ClsOk (X : Cx) : List ExceptHandler → List Cl → Prop
  | nil : ClsOk X [] []
  | named {x n : Str} {c : Value} {i : Nat} {ts : Addr → Value → Option Addr → TS} {b₀ : Stmt} {suite : List Stmt} {np p : Pos} {hds : List ExceptHandler} {l : List Cl} (hi : X.N[i]? = some n) (hn : X.env.kindOf n = some .local) (hc : Names X x c)
      (hsu : ∀ (a : Addr) (oe : Obj) (cls : Value) (d : Option Addr) (pn : List (Addr × Obj)), Zc cls d oe → (∃ vs, oe.data = .fields vs) → X.base.get? a = none → PSs (X.suite a ((a, oe) :: pn)) (b₀ :: suite) (ts a cls d)) (r : ClsOk X hds l) :
      ClsOk X (.ExceptHandler (some (.Name x np)) (some n) (b₀ :: suite) p :: hds) (⟨c, some i, ts⟩ :: l)
  | bare {x : Str} {c : Value} {ts : Addr → Value → Option Addr → TS} {b₀ : Stmt} {suite : List Stmt} {np p : Pos} {hds : List ExceptHandler} {l : List Cl} (hc : Names X x c)
      (hsu : ∀ (a : Addr) (oe : Obj) (cls : Value) (d : Option Addr) (pn : List (Addr × Obj)), Zc cls d oe → (∃ vs, oe.data = .fields vs) → X.base.get? a = none → PSs (X.suite a ((a, oe) :: pn)) (b₀ :: suite) (ts a cls d)) (r : ClsOk X hds l) :
      ClsOk X (.ExceptHandler (some (.Name x np)) none (b₀ :: suite) p :: hds) (⟨c, none, ts⟩ :: l)
section
variable {X : Cx}
/-- the reading of a suite's end goes over to what stands behind it -/
theorem sp_named {pins : List (Addr × Obj)} {a : Addr} {oe : Obj} {pn : List (Addr × Obj)} {i : Nat} {n : Str} {D : Ends} {pos : Pos} {f : Flow} {s : Shared} (ok : X.Ok) (hN : X.N.Nodup) (hi : X.N[i]? = some n) (hn : X.env.kindOf n = some .local)
    (h : SP (X.suite a ((a, oe) :: (X.pn ++ pins))) [] (sEnds i D) f s) :
    wpAny (model X.prog X.w) X.A (do bindName X.env n .none; unbindBehindTheSuite X.env n pos) (fun _ s' => SP X pins D f s') X.xe s := by
  cases f with
  | ret u =>
    obtain ⟨v, σ1, H1, S, r, q⟩ := h
    exact gone_ok (S.unsuite ok) hN hi hn fun s' J => ⟨v, _, _, J, r, q⟩
  | next =>
    obtain ⟨σ1, H1, S, q⟩ := h
    exact gone_ok (S.unsuite ok) hN hi hn fun s' J => ⟨_, _, J, q⟩
  | brk =>
    obtain ⟨σ1, H1, S, q⟩ := h
    exact gone_ok (S.unsuite ok) hN hi hn fun s' J => ⟨_, _, J, q⟩
  | cont =>
    obtain ⟨σ1, H1, S, q⟩ := h
    exact gone_ok (S.unsuite ok) hN hi hn fun s' J => ⟨_, _, J, q⟩
theorem sp_bare {pins : List (Addr × Obj)} {a : Addr} {oe : Obj} {pn : List (Addr × Obj)} {D : Ends} {f : Flow} {s : Shared} (ok : X.Ok) (h : SP (X.suite a ((a, oe) :: (X.pn ++ pins))) [] D f s) : SP X pins D f s := by
  cases f with
  | ret u =>
    obtain ⟨v, σ1, H1, S, r, q⟩ := h
    exact ⟨v, _, _, S.unsuite ok, r, q⟩
  | next =>
    obtain ⟨σ1, H1, S, q⟩ := h
    exact ⟨_, _, S.unsuite ok, q⟩
  | brk =>
    obtain ⟨σ1, H1, S, q⟩ := h
    exact ⟨_, _, S.unsuite ok, q⟩
  | cont =>
    obtain ⟨σ1, H1, S, q⟩ := h
    exact ⟨_, _, S.unsuite ok, q⟩
/-- behind a body that let nothing out -/
theorem sp_body {pins : List (Addr × Obj)} {xe : Value → Shared → Prop} {D : Ends} {f : Flow} {s : Shared} (ok : X.Ok) (h : SP (X.tr (X.pn ++ pins) xe) [] D f s) :
    match f with | .next => wpAny (model X.prog X.w) X.A (execs [] X.env) (SP X pins D) X.xe s | f => SP X pins D f s := by
  cases f with
  | ret u =>
    obtain ⟨v, σ1, H1, S, r, q⟩ := h
    exact ⟨v, _, _, S.ofTry ok, r, q⟩
  | next =>
    obtain ⟨σ1, H1, S, q⟩ := h
    exact wpAny_execs_nil ⟨_, _, S.ofTry ok, q⟩
  | brk =>
    obtain ⟨σ1, H1, S, q⟩ := h
    exact ⟨_, _, S.ofTry ok, q⟩
  | cont =>
    obtain ⟨σ1, H1, S, q⟩ := h
    exact ⟨_, _, S.ofTry ok, q⟩
/-- a caught exception goes through the clauses -/
theorem cls_go {pins : List (Addr × Obj)} {σ : L2.St} {H : Hp} {D : Ends} {Wout : WX} {cls : Value} {d : Option Addr} {a : Addr} {B : Heap} {sI s : Shared} (hst : X.stack = X.env :: X.outer) (hf : X.env.frame = some X.env.locals) (hN : X.N.Nodup) (tk : Takes X Wout)
    (J : Inv X pins σ H sI) (nb : ∀ b o, sI.heap.get? b = some o → b ∉ frs X.stack → B.get? b = some o) (up : sI.heap.UpToSlots s.heap) (fl : HandSPX.FlyingZ B X.stack a (Zc cls d) s.heap) (na : H a = none) (os : s.os = sI.os) (ag : AllBare s.gens) :
    ∀ {hds : List ExceptHandler} {l : List Cl}, ClsOk X hds l → wCls X.K Wout D l cls d σ H → wpAny (model X.prog X.w) X.A (handleBy (.ref a) X.env hds) (SP X pins D) X.xe s := by
  have ok := J.ok
  obtain ⟨hh, g, dr, tk', o'⟩ := s
  -- the place is neither a frame nor tracked
  have far : ∀ {h : Heap} {o : Obj} {vs : Array Value}, h.FunFrames B X.stack → h.get? a = some o → o.data = .fields vs → a ≠ X.env.locals ∧ a ∉ X.fs := by
    intro h o vs ff e dd
    have hm : a ∉ frs X.stack := by
      intro z
      obtain ⟨_, o2, e2, n2⟩ := ff.mem z
      rw [e] at e2
      cases e2
      exact n2 _ dd
    have em : frs X.stack = X.env.locals :: X.fs := by
      rw [hst]
      show List.filterMap _ (X.env :: X.outer) = _
      rw [List.filterMap_cons, hf]
      rfl
    rw [em] at hm
    exact ⟨fun z => hm (by rw [z]; exact List.mem_cons_self ..), fun z => hm (List.mem_cons_of_mem _ z)⟩
  have into : ∀ {h : Heap}, HandSPX.FlyingZ B X.stack a (Zc cls d) h → sI.heap.UpToSlots h → ∃ oe, Zc cls d oe ∧ (∃ vs, oe.data = .fields vs) ∧ h.get? a = some oe ∧ Inv (X.suite a ((a, oe) :: (X.pn ++ pins))) [] σ H ⟨h, g, dr, tk', o'⟩ := by
    intro h f u
    obtain ⟨oe, vs, he, hz, hd⟩ := f.there
    obtain ⟨n1, n2⟩ := far f.2.2.1 he hd
    have J1 : Inv X pins σ H ⟨h, g, dr, tk', o'⟩ := J.landed nb f.1 u os ag
    exact ⟨oe, hz, ⟨vs, hd⟩, he, J1.suite he hd na n1 n2⟩
  -- .. nor of the base
  have hnb : X.base.get? a = none := by
    cases e : X.base.get? a with
    | none => rfl
    | some o =>
      obtain ⟨oe, vs, he, hz, hd⟩ := fl.there
      have hm : a ∉ frs X.stack := by
        intro z
        obtain ⟨_, o2, e2, n2⟩ := fl.2.2.1.mem z
        rw [he] at e2
        cases e2
        exact n2 _ hd
      have z := nb a o (J.bk a o e) hm
      rw [fl.2.1] at z
      cases z
  obtain ⟨oe, hz, hdt, he, S⟩ := into fl up
  have LT : PySem.W.Looks (model X.prog X.w) hh (typeOf (.ref a)) cls := fun A Q E s k q => wpAny_typeOf_ref (k _ _ he) (by rw [hz.1]; exact q)
  have KI : X.K.In hh := S.kIn
  have test : ∀ {x : Str} {c : Value} {np : Pos} {b : Bool} {Q : Value → Shared → Prop} {E : Value → Shared → Prop}, Names X x c → Q c ⟨hh, g, dr, tk', o'⟩ →
      wpAny (model X.prog X.w) (X.A.mark (some (.ref a))) (eval (.Name x np) X.env) Q E ⟨hh, g, dr, tk', o'⟩ := by
    intro x c np b Q E hc q
    obtain ⟨hg, hdb, hm | ⟨hm, hv, hnn⟩⟩ := hc
    · exact ld_glob (X := X.suite a ((a, oe) :: (X.pn ++ pins))) S hg hm q hdb
    · exact ld_blt (X := X.suite a ((a, oe) :: (X.pn ++ pins))) S hg hm hv q hnn hdb
  intro hds l hk
  induction hk with
  | nil =>
    intro w
    refine wpAny_handleBy_nil ?_
    have fl0 := fl
    obtain ⟨_, _, _, oe1, vs1, T, _, _, he1, _, hd1, h1, _⟩ := fl0
    have out : wpAny (model X.prog X.w) X.A (setFlight (.ref a) X.env.frame) (fun _ s4 => wpAny (model X.prog X.w) X.A (throw (.ref a) : Sem Flow) (SP X pins D) X.xe s4) X.xe ⟨hh, g, dr, tk', o'⟩ := by
      rw [hf]
      refine HandSPX.setFlight_upZ fl fun h4 held up4 => wpAny_throw (tk _ _ ?_)
      exact ⟨a, B, sI, pins, σ, H, cls, d, rfl, J, nb, up.trans up4, .inr (.inr held), na, os, ag, w⟩
    unfold PySem.passOn
    refine wpAny_bind (wpAny_field he1 hd1 h1 ?_)
    rw [if_neg (by simp)]
    first
      | exact wpAny_bind (wpAny_pure (wpAny_bind out))
      | exact wpAny_bind out
  | @named x n c i ts b₀ suite np p hds l hi hn hc hsu r ih =>
    intro w
    obtain ⟨b, hb, yes, no⟩ := w
    refine wpAny_handleBy_cons (codeAny_handlers_test ?_) (by intro q; cases q)
    refine test (b := b) hc ((PySem.W.exm_one (M := model X.prog X.w) KI LT hb).here ?_)
    cases b with
    | false => exact ih (no rfl)
    | true =>
      refine codeAny_handlers_suite_as (HandSPX.lands_againZ fl fun h4 fl4 up4 => ?_)
      obtain ⟨oe4, hz4, hd4, _, S4⟩ := into fl4 (up.trans up4)
      refine store_ok (X := X.suite a ((a, oe4) :: (X.pn ++ pins))) (v := .ref a) S4 hN hi (.inl hn) rfl (fun s5 S5 => ?_) (.inr hn)
      exact wpAny_mono ((hsu a oe4 cls d (X.pn ++ pins) hz4 hd4 hnb).run [] s5 _ H _ S5 (yes rfl a na)) (fun f s6 h6 => sp_named (pn := X.pn ++ pins) ok hN hi hn h6) fun _ _ z => False.elim z
  | @bare x c ts b₀ suite np p hds l hc hsu r ih =>
    intro w
    obtain ⟨b, hb, yes, no⟩ := w
    refine wpAny_handleBy_cons (codeAny_handlers_test ?_) (by intro q; cases q)
    refine test (b := b) hc ((PySem.W.exm_one (M := model X.prog X.w) KI LT hb).here ?_)
    cases b with
    | false => exact ih (no rfl)
    | true =>
      refine codeAny_handlers_suite (HandSPX.lands_againZ fl fun h4 fl4 up4 => ?_)
      obtain ⟨oe4, hz4, hd4, _, S4⟩ := into fl4 (up.trans up4)
      exact wpAny_mono ((hsu a oe4 cls d (X.pn ++ pins) hz4 hd4 hnb).run [] _ _ H _ S4 (yes rfl a na)) (fun f s6 h6 => sp_bare (pn := X.pn ++ pins) ok h6) fun _ _ z => False.elim z
/-- its reading -/
def tTryC (K : PySem.W.Frag) (l : List Cl) (tb : WX → TS) (Wout : WX) : TS := fun D σ H => tb (wCls K Wout D l) D σ H
theorem ps_tryC {body : List Stmt} {h₀ : ExceptHandler} {hds : List ExceptHandler} {l : List Cl} {pos : Pos} {tb : WX → TS} {Wout : WX} (hN : X.N.Nodup) (hs : X.stack = X.env :: X.outer) (hf : X.env.frame = some X.env.locals) (tk : Takes X Wout)
    (hb : ∀ (W : WX) (pn : List (Addr × Obj)) (xe : Value → Shared → Prop), Takes (X.tr pn xe) W → PassesOwn (model X.prog X.w) X.A X.env xe → PSs (X.tr pn xe) body (tb W))
    (hh : ClsOk X (h₀ :: hds) l) : PS X (.Try body (h₀ :: hds) [] [] pos) (tTryC X.K l tb Wout) := by
  refine ⟨fun pins s σ H D I h => ?_⟩
  have ok := I.ok
  refine wpAny_Try_except ?_
  refine wpAny_mono ((hb (wCls X.K Wout D l) (X.pn ++ pins) (fun e s₁ => wpAny (model X.prog X.w) X.A (noteFrame e X.env) (fun _ s₂ => wpAny (model X.prog X.w) X.A (setFlight e none) (fun _ s₃ =>
    wpAny (model X.prog X.w) X.A (handleBy e X.env (h₀ :: hds)) (SP X pins D) X.xe s₃) X.xe s₂) X.xe s₁) (fun u s' air => ?_) PassesOwn.looking).run [] s σ H D (I.toTry _) h) (fun f s1 z => by cases f <;> exact sp_body ok z) (fun e s1 z => z)
  obtain ⟨a, B, sI, pins', σ', H', cls, d, rfl, J', nb, up, sky, na, os, ag, w⟩ := air
  have J : Inv X pins σ' H' sI := J'.ofTry ok
  have sky' : Sky B (X.env :: X.outer) a (Zc cls d) X.env.locals s'.heap := by rw [← hs]; exact sky
  show wpAny (model X.prog X.w) X.A (noteFrame (.ref a) X.env) _ _ _
  refine Sky.land Zc.steady (by rw [ok.frames, hs]) hf sky' fun h3 fl3 up3 => ?_
  exact cls_go (s := { s' with heap := h3 }) hs hf hN tk J nb (up.trans up3) (by rw [hs]; exact fl3) na os ag hh w
end
/-! ### == and != of sequences whose items are the same things, or equal data -/
mutual
inductive Alk (K : PySem.W.Frag) (H : Hp) : Nat → V → V → Prop
  | ref {n : Nat} (a : Addr) : Alk K H n (.ref a) (.ref a)
  | str {n : Nat} (x : Str) : Alk K H n (.str x) (.str x)
  | dat {n : Nat} {x y : V} {d : PyData} : Dp K H x d → Dp K H y d → SeqAt.shaped d = true → Alk K H n x y
  | tup {n : Nat} {a b : Addr} {xs ys : List V} : SqT K H a xs → SqT K H b ys → AlkA K H n xs ys → Alk K H (n + 1) (.ref a) (.ref b)
  | lst {n : Nat} {a b : Addr} {xs ys : List V} : SqL K H a xs → SqL K H b ys → AlkA K H n xs ys → Alk K H (n + 1) (.ref a) (.ref b)
inductive AlkA (K : PySem.W.Frag) (H : Hp) : Nat → List V → List V → Prop
  | nil {n : Nat} : AlkA K H n [] []
  | cons {n : Nat} {x y : V} {xs ys : List V} : Alk K H n x y → AlkA K H n xs ys → AlkA K H n (x :: xs) (y :: ys)
end
theorem Alk.int {K : PySem.W.Frag} {H : Hp} {n : Nat} (i : Int) : Alk K H n (.int i) (.int i) := .dat (.int i) (.int i) rfl
theorem Alk.bl {K : PySem.W.Frag} {H : Hp} {n : Nat} (b : Bool) : Alk K H n (.bl b) (.bl b) := .dat (.bl b) (.bl b) rfl
theorem Alk.non {K : PySem.W.Frag} {H : Hp} {n : Nat} : Alk K H n .non .non := .dat .non .non rfl
section
variable {X : Cx} {pins : List (Addr × Obj)} {σ : L2.St} {H : Hp} {s : Shared}
theorem AlkA.len {K : PySem.W.Frag} {n : Nat} : ∀ {xs ys : List V}, AlkA K H n xs ys → xs.length = ys.length
  | _, _, .nil => rfl
  | _, _, .cons _ r => by simp [r.len]
theorem vals_size : ∀ {xs : List V} {us : List Value}, Vals xs us → us.length = xs.length
  | _, _, .nil => rfl
  | _, _, .cons _ r => by simp [vals_size r]
theorem all_true {n : Nat} : ((List.range n).all fun _ => true) = true := by simp
mutual
theorem Alk.eq (I : Inv X pins σ H s) : ∀ {n : Nat} {x y : V}, Alk X.K H n x y → ∀ {u v : Value}, RelV x u → RelV y v → ∀ A : Around, A.units + 64 + n < cLine → SeqAt.EqAt A s u v true
  | _, _, _, .ref a, u, v, ru, rv, A, hu => by
    obtain rfl : u = Value.ref a := ru
    obtain rfl : v = Value.ref a := rv
    exact SeqAt.EqAt.same _
  | _, _, _, .str x, u, v, ru, rv, A, hu => by
    obtain ⟨t1, rfl⟩ := ru
    obtain ⟨t2, rfl⟩ := rv
    have e := SeqAt.EqAt.str_str (A := A) (s := s) x t1 x t2
    rw [beq_self_eq_true] at e
    exact e
  | _, _, _, .dat (d := d) h1 h2 hs, u, v, ru, rv, A, hu => by
    obtain ⟨as, r1⟩ := Dp.reads I d _ _ h1 ru
    obtain ⟨bs, r2⟩ := Dp.reads I d _ _ h2 rv
    have cl := SeqAt.canLay_of_shaped hs
    have e := SeqAt.eqAt_reads d d A s u v as bs r1 r2 cl cl (SeqAt.room_of_shaped hs (by omega))
    rw [SeqAt.eqv_refl d cl] at e
    exact e
  | _, _, _, .tup (n := n) (a := a) (b := b) h1 h2 hs, u, v, ru, rv, A, hu => by
    obtain rfl : u = Value.ref a := ru
    obtain rfl : v = Value.ref b := rv
    obtain ⟨is, w1, t1, _⟩ := I.tuple h1
    obtain ⟨js, w2, t2, _⟩ := I.tuple h2
    by_cases hab : a = b
    · subst hab; exact SeqAt.EqAt.same _
    · intro prog w E Q hq
      refine SeqAt.EqIn.of_refs hab (fun E Q hq => ?_) E Q hq
      refine SeqAt.rcIn_tuples (e := fun _ => true) t1 t2 (by omega) (fun j j1 j2 => (AlkA.eq I hs w1 w2 A.in1 (by show A.units + 1 + 64 + n < cLine; omega) j (by simpa using j1) (by simpa using j2)).inModel prog w) ?_
      have e : is.toArray.size = js.toArray.size := by rw [List.size_toArray, List.size_toArray, vals_size w1, vals_size w2, hs.len]
      rw [all_true, e, beq_self_eq_true]
      exact hq
  | _, _, _, .lst (n := n) (a := a) (b := b) h1 h2 hs, u, v, ru, rv, A, hu => by
    obtain rfl : u = Value.ref a := ru
    obtain rfl : v = Value.ref b := rv
    obtain ⟨is, w1, t1, _⟩ := I.list h1
    obtain ⟨js, w2, t2, _⟩ := I.list h2
    by_cases hab : a = b
    · subst hab; exact SeqAt.EqAt.same _
    · intro prog w E Q hq
      refine SeqAt.EqIn.of_refs hab (fun E Q hq => ?_) E Q hq
      have e : is.toArray.size = js.toArray.size := by rw [List.size_toArray, List.size_toArray, vals_size w1, vals_size w2, hs.len]
      refine SeqAt.rcIn_lists (e := fun _ => true) t1.isList t2.isList e (by omega) (fun j j1 j2 => (AlkA.eq I hs w1 w2 A.in1 (by show A.units + 1 + 64 + n < cLine; omega) j (by simpa using j1) (by simpa using j2)).inModel prog w) ?_
      rw [all_true]
      exact hq
theorem AlkA.eq (I : Inv X pins σ H s) : ∀ {n : Nat} {xs ys : List V}, AlkA X.K H n xs ys → ∀ {us vs : List Value}, Vals xs us → Vals ys vs → ∀ A : Around, A.units + 64 + n < cLine → ∀ j (j1 : j < us.length) (j2 : j < vs.length), SeqAt.EqAt A s us[j] vs[j] true
  | _, _, _, .nil, _, _, .nil, .nil, A, hu, j, j1, j2 => by simp at j1
  | _, _, _, .cons h t, _, _, .cons r1 w1, .cons r2 w2, A, hu, 0, j1, j2 => Alk.eq I h r1 r2 A hu
  | _, _, _, .cons h t, _, _, .cons r1 w1, .cons r2 w2, A, hu, j + 1, j1, j2 => AlkA.eq I t w1 w2 A hu j (by simpa using j1) (by simpa using j2)
end
/-- both are tuples, or both lists -/
def SqAlk (K : PySem.W.Frag) (H : Hp) (x y : V) : Prop := ∃ (a b : Addr) (xs ys : List V) (n : Nat), x = .ref a ∧ y = .ref b ∧ n ≤ 30 ∧ AlkA K H n xs ys ∧ ((SqT K H a xs ∧ SqT K H b ys) ∨ (SqL K H a xs ∧ SqL K H b ys))
def rEqA (K : PySem.W.Frag) : R2 := fun x y H Q => SqAlk K H x y ∧ Q (.bl true) H
def rNeA (K : PySem.W.Frag) : R2 := fun x y H Q => SqAlk K H x y ∧ Q (.bl false) H
theorem op_eqA (hu : X.A.units + 100 < cLine) : OpR X (compareOp .Eq) (rEqA X.K) := by
  intro pins s σ H x y v u Q I rx ry h
  obtain ⟨⟨a, b, xs, ys, n, rfl, rfl, hn, al, hs⟩, q⟩ := h
  obtain rfl : v = Value.ref a := rx
  obtain rfl : u = Value.ref b := ry
  show wpAny _ _ (richCompare .Eq (.ref a) (.ref b)) _ _ _
  rcases hs with ⟨h1, h2⟩ | ⟨h1, h2⟩
  · obtain ⟨is, w1, t1, _⟩ := I.tuple h1
    obtain ⟨js, w2, t2, _⟩ := I.tuple h2
    have e : is.toArray.size = js.toArray.size := by rw [List.size_toArray, List.size_toArray, vals_size w1, vals_size w2, al.len]
    refine SeqAt.rcIn_tuples (e := fun _ => true) t1 t2 (by omega) (fun j j1 j2 => (AlkA.eq I al w1 w2 X.A.in1 (by show X.A.units + 1 + 64 + n < cLine; omega) j (by simpa using j1) (by simpa using j2)).inModel _ _) ?_
    rw [all_true, e, beq_self_eq_true]
    exact ⟨.bl true, H, I, rfl, q⟩
  · obtain ⟨is, w1, t1, _⟩ := I.list h1
    obtain ⟨js, w2, t2, _⟩ := I.list h2
    have e : is.toArray.size = js.toArray.size := by rw [List.size_toArray, List.size_toArray, vals_size w1, vals_size w2, al.len]
    refine SeqAt.rcIn_lists (e := fun _ => true) t1.isList t2.isList e (by omega) (fun j j1 j2 => (AlkA.eq I al w1 w2 X.A.in1 (by show X.A.units + 1 + 64 + n < cLine; omega) j (by simpa using j1) (by simpa using j2)).inModel _ _) ?_
    rw [all_true]
    exact ⟨.bl true, H, I, rfl, q⟩
theorem op_neA (hu : X.A.units + 100 < cLine) : OpR X (compareOp .NotEq) (rNeA X.K) := by
  intro pins s σ H x y v u Q I rx ry h
  obtain ⟨⟨a, b, xs, ys, n, rfl, rfl, hn, al, hs⟩, q⟩ := h
  obtain rfl : v = Value.ref a := rx
  obtain rfl : u = Value.ref b := ry
  show wpAny _ _ (richCompare .NotEq (.ref a) (.ref b)) _ _ _
  rcases hs with ⟨h1, h2⟩ | ⟨h1, h2⟩
  · obtain ⟨is, w1, t1, _⟩ := I.tuple h1
    obtain ⟨js, w2, t2, _⟩ := I.tuple h2
    have e : is.toArray.size = js.toArray.size := by rw [List.size_toArray, List.size_toArray, vals_size w1, vals_size w2, al.len]
    refine SeqAt.RcNeAt.tuples (e := fun _ => true) t1 t2 (by omega) (fun j j1 j2 => AlkA.eq I al w1 w2 X.A.in1 (by show X.A.units + 1 + 64 + n < cLine; omega) j (by simpa using j1) (by simpa using j2)) _ _ _ _ ?_
    rw [all_true, e, beq_self_eq_true]
    exact ⟨.bl false, H, I, rfl, q⟩
  · obtain ⟨is, w1, t1, _⟩ := I.list h1
    obtain ⟨js, w2, t2, _⟩ := I.list h2
    have e : is.toArray.size = js.toArray.size := by rw [List.size_toArray, List.size_toArray, vals_size w1, vals_size w2, al.len]
    refine SeqAt.RcNeAt.lists (e := fun _ => true) t1.isList t2.isList e (by omega) (fun j j1 j2 => AlkA.eq I al w1 w2 X.A.in1 (by show X.A.units + 1 + 64 + n < cLine; omega) j (by simpa using j1) (by simpa using j2)) _ _ _ _ ?_
    rw [all_true]
    exact ⟨.bl false, H, I, rfl, q⟩
end
/-! ### methods that may raise -/
def tMethX (C : Addr) (m : Str) (sp : Sp) (E : L2.St → XK) (ta : TE) (t : TA) : TE := fun σ H Q => ta σ H fun x H1 => ∃ a dx fs, x = .ref a ∧ H1 a = some (.ins C dx fs) ∧ fs.lookup m = none ∧ t σ H1 fun vs H2 => sp (x :: vs) H2 Q (E σ)
section
variable {X : Cx} {k : Nat} {C : Addr} {m : Str} {ps : List Str} {sp : Sp} {o e : Expr} {es : List Expr} {ta : TE} {t : TA} {apos pos : Pos} {pl : Sem Bool} {W : WX}
theorem pe_mtX (M : MetX X.prog X.w X.K X.mg X.base C k m ps sp) (kc : Cls X.K C) (hr : Room k X.A) (tk : Takes X W) (he : PE X o ta) (ha : PA X (e :: es) t)
    (hst : starEach (e :: es) X.env = (false, eval e X.env) :: starEach es X.env := by rfl) (hpl : (backTo pos (starEach es X.env)).any (·.1) = false := by rfl)
    (ht : eval (.Call (.Attribute o m apos) (e :: es) [] pos) X.env = (do let ov ← eval o X.env; standAt apos.atName; let (f, first) ← holding [ov] (getMethod ov m pl); callWith pos f first (backTo pos (starEach (e :: es) X.env)) (backToKw pos (keywordEach [] X.env))) := by rfl) :
    PE X (.Call (.Attribute o m apos) (e :: es) [] pos) (tMethX C m sp (WE W) ta t) := by
  obtain ⟨f, fd, mt, F, hb⟩ := M.ex
  refine ⟨fun pins s σ H Q I h => PySem.W.methodCall_KW (pl := pl) (thn (he.run pins s σ H _ I h) ?_) ht⟩
  rintro u s1 ⟨_, H1, I1, rx, a, dx, fs, rfl, ea, l, q⟩
  cases (show u = Value.ref a from rx)
  refine getmeth_ok I1 ea kc mt l (PySem.W.callWith_K (first := [.ref a]) (h₀ := X.base) I.ok.mod.kin mt.kp (thn (ha.run pos pins s1 σ H1 _ I1 q) ?_) hst hpl)
  rintro us s2 ⟨vs, H2, I2, r, q2⟩
  exact ⟨I2.kIn, run_fnS (us := .ref a :: us) (vs := .ref a :: vs) F hr hb (passAt tk σ) I2 (.cons rfl r) q2⟩
end
section
variable {σ : L2.St} {H : Hp} {Q : VK} {D : Ends} {ta : TE} {al : TA} {C : Addr} {m : Str} {sp : Sp} {E : L2.St → XK} {K : PySem.W.Frag} {W Wout : WX} {cls : Value} {d : Option Addr} {k : Cl} {r : List Cl} {tb : WX → TS} {l : List Cl}
theorem x_mtX (h : ta σ H fun x H1 => rMtA C m x H1 (al σ H1 fun vs H2 => sp (x :: vs) H2 Q (E σ))) : tMethX C m sp E ta al σ H Q := h
theorem x_tryC (q : tb (wCls K Wout D l) D σ H) : tTryC K l tb Wout D σ H := q
theorem x_hit (e : PySem.W.exmOne K cls k.c = some true) (q : k.hit D cls d σ H) : wCls K Wout D (k :: r) cls d σ H := ⟨true, e, fun _ => q, fun z => nomatch z⟩
theorem x_miss (e : PySem.W.exmOne K cls k.c = some false) (q : wCls K Wout D r cls d σ H) : wCls K Wout D (k :: r) cls d σ H := ⟨false, e, (fun z => nomatch z), fun _ => q⟩
theorem x_hitN {c : Value} {i : Nat} {ts : Addr → Value → Option Addr → TS} (e : PySem.W.exmOne K cls c = some true) (q : ∀ a, H a = none → ts a cls d (sEnds i D) (σ.set i (some (.ref a))) H) : WE (wCls K Wout D (⟨c, some i, ts⟩ :: r)) σ cls d H := x_hit e q
theorem x_hitB {c : Value} {ts : Addr → Value → Option Addr → TS} (e : PySem.W.exmOne K cls c = some true) (q : ∀ a, H a = none → ts a cls d D σ H) : WE (wCls K Wout D (⟨c, none, ts⟩ :: r)) σ cls d H := x_hit e q
theorem x_missE (e : PySem.W.exmOne K cls k.c = some false) (q : WE (wCls K Wout D r) σ cls d H) : WE (wCls K Wout D (k :: r)) σ cls d H := x_miss e q
theorem x_byV {y : Str} {a : Addr} {dd : Addr} {v : V} {i : Nat} {C : Addr} (G : ExcG K C y) (hv : σ[i]? = some (some (.ref a))) (hd : H dd = some (.xd [(y, v)])) (q : Q v H) : tByS K y a (.ref C) (some dd) (tVar i) σ H Q :=
  ⟨.ref a, hv, rfl, C, dd, v, rfl, G, rfl, hd, q⟩
theorem hu100 {k : Nat} {A : Around} (r : Room k A) : A.units + 100 < cLine := by have := r.un; omega
end
end Ox

/-! Own layer: dicts whose keys are of many kinds at once (None, flags, whole numbers, texts, tuples of such). Raw part. -/
namespace Ox
open PySem PySem.Spec PyProof.Rows L2
open Sem (wp)
/-- key, the key as it lies, the value -/
abbrev MX := List (NestedKey × Value × Value)
def entM (w : World) (x : NestedKey × Value × Value) : DictEntry := ⟨x.1.hash w, x.2.1, x.2.2⟩
/-- at d stands a plain dict with just these -/
def MixAt (w : World) (h : Heap) (d : Addr) (xs : MX) : Prop := ∃ o es ep, h.get? d = some o ∧ o.ExactDict ∧ o.data = .dict es ep ∧ es.toList = xs.map (entM w) ∧ (xs.map (·.1)).Nodup
/-- what lies there as keys, are those keys -/
def KeysIn (h : Heap) (xs : MX) : Prop := ∀ x ∈ xs, NestedIs h x.1 x.2.1 ∧ x.1.depth ≤ 8
theorem ent_at {w : World} {es : Array DictEntry} {xs : MX} (he : es.toList = xs.map (entM w)) (j : Nat) : es[j]? = (xs[j]?).map (entM w) := by
  rw [← Array.getElem?_toList, he, List.getElem?_map]
theorem ent_size {w : World} {es : Array DictEntry} {xs : MX} (he : es.toList = xs.map (entM w)) : es.size = xs.length := by
  rw [← Array.length_toList, he, List.length_map]
theorem mix_unique {xs : MX} (hn : (xs.map (·.1)).Nodup) {i j : Nat} {k : NestedKey} {p q : Value × Value} (hi : xs[i]? = some (k, p)) (hj : xs[j]? = some (k, q)) : i = j := by
  have hi' : (xs.map (·.1))[i]? = some k := by rw [List.getElem?_map, hi]; rfl
  have hj' : (xs.map (·.1))[j]? = some k := by rw [List.getElem?_map, hj]; rfl
  exact (List.getElem?_inj (List.getElem?_eq_some_iff.mp hi').1 hn).mp (hi'.trans hj'.symm)
/-- where the key stands -/
def idxM {β : Type} (xs : List (NestedKey × β)) (k : NestedKey) : Option Nat := xs.findIdx? fun x => decide (x.1 = k)
theorem idxM_some {β : Type} {xs : List (NestedKey × β)} {k : NestedKey} {j : Nat} (h : idxM xs k = some j) : ∃ p, xs[j]? = some (k, p) := by
  obtain ⟨h1, h2, _⟩ := List.findIdx?_eq_some_iff_getElem.mp h
  refine ⟨xs[j].2, ?_⟩
  rw [List.getElem?_eq_getElem h1]
  have e : xs[j].1 = k := of_decide_eq_true h2
  rw [← e]
theorem idxM_none {β : Type} {xs : List (NestedKey × β)} {k : NestedKey} (h : idxM xs k = none) (j : Nat) (p : β) : xs[j]? ≠ some (k, p) := fun e => by
  have := List.findIdx?_eq_none_iff.mp h (k, p) (List.mem_of_getElem? e)
  simp at this
theorem idxM_of {xs : MX} (hn : (xs.map (·.1)).Nodup) {k : NestedKey} {j : Nat} {p : Value × Value} (h : xs[j]? = some (k, p)) : idxM xs k = some j := by
  cases e : idxM xs k with
  | none => exact absurd h (idxM_none e j p)
  | some i => obtain ⟨q, hq⟩ := idxM_some e; rw [mix_unique hn hq h]
section
variable {prog : Program} {w : World} {A : Around} {E : Value → Shared → Prop} {s : Shared}
theorem mix_quiet {k : NestedKey} {key : Value} {st : List Value} {Q : Bool → Shared → Prop} (hk : NestedIs s.heap k key) (hd : k.depth ≤ 8) (hst : ∀ v ∈ st, ∃ k', NestedIs s.heap k' v ∧ k'.depth ≤ 8) (h : Q false s) :
    wpAny (model prog w) A (tableMayTell key st) Q E s := by
  unfold tableMayTell
  split
  · exact wpAny_pure h
  · refine wpAny_bind (quiet_key k key 8 s hk hd _ _ _ ?_)
    simp only [Bool.not_true, Bool.false_eq_true, if_false]
    refine wpAny_bind ?_
    refine wpAny_forIn_list _ (fun rest r s' => s' = s ∧ r = (none, ()) ∧ ∀ v ∈ rest, ∃ k', NestedIs s.heap k' v ∧ k'.depth ≤ 8) _ ?_ ?_ _ _ ⟨rfl, rfl, hst⟩
    · rintro x rest r s' ⟨rfl, rfl, hr⟩
      obtain ⟨k', hb, hd'⟩ := hr x List.mem_cons_self
      refine wpAny_bind (quiet_key k' x 8 _ hb hd' _ _ _ ?_)
      simp only [Bool.not_true, Bool.false_eq_true, if_false]
      exact wpAny_pure ⟨rfl, rfl, fun v hv => hr v (List.mem_cons_of_mem _ hv)⟩
    · rintro r s' ⟨rfl, rfl, _⟩
      exact wpAny_pure h
theorem mix_eq {x y : NestedKey} {a b : Value} {Q : Bool → Shared → Prop} (hu : A.units + 8 < cLine) (hx : NestedIs s.heap x a) (dx : x.depth ≤ 8) (hy : NestedIs s.heap y b) (h : Q (decide (x = y)) s) : wpAny (model prog w) A (eqBool a b) Q E s :=
  eqAt_key x y A s _ _ hx hy (by omega) _ _ _ _ (by rw [← NestedKey.decide_eq]; exact h)
theorem mix_isStr {h : Heap} {k : NestedKey} {v : Value} {x : Str} (hk : NestedIs h k v) : v.isStr x = decide (k = .text x) := by
  cases hk with
  | text y t =>
    show Value.isStr (.str y t) x = _
    by_cases e : y = x
    · subst e; simp [Value.isStr]
    · rw [decide_eq_false (fun z => e (by injection z))]; simp [Value.isStr, e]
  | none => exact (show false = _ from (decide_eq_false (fun z => by cases z)).symm)
  | bool e => exact (show false = _ from (decide_eq_false (fun z => by cases z)).symm)
  | int i t => exact (show false = _ from (decide_eq_false (fun z => by cases z)).symm)
  | tup _ _ _ _ => exact (show false = _ from (decide_eq_false (fun z => by cases z)).symm)
theorem ent_find {k : NestedKey} {p : DictEntry → Bool} : ∀ {l : List DictEntry} {xs : MX}, l = xs.map (entM w) → (∀ x ∈ xs, p (entM w x) = decide (x.1 = k)) → l.findIdx? p = idxM xs k
  | _, [], rfl, _ => rfl
  | _, x :: xs, rfl, h => by
    have ih := ent_find (k := k) (p := p) (l := xs.map (entM w)) (xs := xs) rfl fun y hy => h y (List.mem_cons_of_mem _ hy)
    show List.findIdx? p (entM w x :: xs.map (entM w)) = List.findIdx? _ (x :: xs)
    rw [List.findIdx?_cons, List.findIdx?_cons, h x List.mem_cons_self, ih]
    rfl
/-- the search of a key -/
theorem mix_find {d : Addr} {o : Obj} {es : Array DictEntry} {ep : Nat} {xs : MX} {k : NestedKey} {key : Value} {Q : Option Nat → Shared → Prop} (hu : A.units + 8 < cLine) (hkey : NestedIs s.heap k key) (hkd : k.depth ≤ 8)
    (ho : s.heap.get? d = some o) (hd : o.data = .dict es ep) (he : es.toList = xs.map (entM w)) (hin : KeysIn s.heap xs) (hn : (xs.map (·.1)).Nodup) (h : Q (idxM xs k) s) :
    wpAny (model prog w) A (dictFind d key (k.hash w)) Q E s := by
  have hsz : es.size = xs.length := ent_size he
  have at_ : ∀ (j : Nat) (hj : j < es.size), ∃ (k' : NestedKey) (kv v : Value), xs[j]? = some (k', kv, v) ∧ es[j]? = some ⟨k'.hash w, kv, v⟩ ∧ NestedIs s.heap k' kv ∧ k'.depth ≤ 8 := fun j hj => by
    have hj' : j < xs.length := hsz ▸ hj
    refine ⟨xs[j].1, xs[j].2.1, xs[j].2.2, List.getElem?_eq_getElem hj', ?_, hin _ (List.getElem_mem hj')⟩
    rw [ent_at he j, List.getElem?_eq_getElem hj']; rfl
  have haskey : ∀ (j : Nat) (p : Value × Value), xs[j]? = some (k, p) → ((es[j]?.map (·.hash)) == some (k.hash w)) = true := fun j p hj => by
    rw [ent_at he j, hj]
    simp [entM]
  have nokey : ∀ (j : Nat), ((es[j]?.map (·.hash)) == some (k.hash w)) = false → ∀ p, xs[j]? ≠ some (k, p) := fun j hp p hj => by
    rw [haskey j p hj] at hp; cases hp
  have hst : ∀ v ∈ (placesWithHash es.size (fun i => es[i]?.map (·.hash)) (k.hash w)).filterMap (fun i => es[i]?.map (·.key)), ∃ k', NestedIs s.heap k' v ∧ k'.depth ≤ 8 := by
    intro v hv
    obtain ⟨i, _, hi⟩ := List.mem_filterMap.mp hv
    cases hei : es[i]? with
    | none => rw [hei] at hi; cases hi
    | some e =>
      rw [hei] at hi
      obtain rfl : e.key = v := by simpa using hi
      have hlt : i < es.size := (Array.getElem?_eq_some_iff.mp hei).1
      obtain ⟨k', kv, v', _, h2, h3⟩ := at_ i hlt
      rw [hei] at h2
      cases h2
      exact ⟨k', h3⟩
  have walkP : wpAny (model prog w) A (dictWalkPlain d key (k.hash w) es (placesWithHash es.size (fun i => es[i]?.map (·.hash)) (k.hash w))) Q E s := by
    refine wpAny_bind ?_
    refine wpAny_forIn_list _
      (fun rest b s' => s' = s ∧ b = (none, ()) ∧ ∃ i, rest = (List.range' i (es.size - i)).filter (fun i => (es[i]?.map (·.hash)) == some (k.hash w)) ∧ i ≤ es.size ∧
        ∀ j, j < i → ∀ p, xs[j]? ≠ some (k, p)) _ ?_ ?_ _ _
      ⟨rfl, rfl, 0, by rw [placesWithHash, List.range_eq_range', Nat.sub_zero], Nat.zero_le _, fun _ h => absurd h (Nat.not_lt_zero _)⟩
    · rintro x rest b s' ⟨rfl, rfl, i, hr, hi, hno⟩
      obtain ⟨hix, hxn, hpx, hskip, hrest⟩ := filter_range'_cons _ _ _ _ _ hr.symm
      have hlt : x < es.size := by omega
      obtain ⟨k', kv, v', e1, e2, e3, e4⟩ := at_ x hlt
      have hnext : ¬ k' = k → ∃ i, rest = (List.range' i (es.size - i)).filter (fun i => (es[i]?.map (·.hash)) == some (k.hash w)) ∧ i ≤ es.size ∧ ∀ j, j < i → ∀ p, xs[j]? ≠ some (k, p) := fun hne =>
        ⟨x + 1, by rw [hrest]; congr 2; omega, hlt, fun j hji => by
          rcases Nat.lt_or_ge j i with h | h
          · exact hno j h
          · rcases Nat.lt_or_ge j x with h' | h'
            · exact nokey j (hskip j h h')
            · have : j = x := by omega
              subst this
              intro p hp
              rw [e1] at hp
              injection hp with hp
              injection hp with hp _
              exact hne hp⟩
      simp only [e2]
      by_cases hh : (k'.hash w == k.hash w) = true
      · rw [if_pos hh]
        refine wpAny_bind (wpAny_dictEpoch ho hd (wpAny_bind (mix_eq hu e3 e4 hkey (wpAny_bind (wpAny_dictEpoch ho hd ?_)))))
        show wpAny _ _ (if (ep != ep) = true then _ else _) _ E _
        rw [if_neg (by simp)]
        by_cases hkk : k' = k
        · rw [decide_eq_true hkk]
          subst hkk
          rw [idxM_of hn e1] at h
          exact wpAny_bind (wpAny_rule (wpAny_pure (wpAny_pure h)))
        · rw [decide_eq_false hkk]
          exact wpAny_bind (wpAny_rule (wpAny_pure ⟨rfl, rfl, hnext hkk⟩))
      · rw [if_neg hh]
        refine wpAny_pure ⟨rfl, rfl, hnext ?_⟩
        intro hkk
        rw [hkk] at hh; simp at hh
    · rintro b s' ⟨rfl, rfl, i, hr, hi, hno⟩
      have hall : ∀ j, i ≤ j → j < es.size → ((es[j]?.map (·.hash)) == some (k.hash w)) = false := by
        intro j h1 h2
        have := List.filter_eq_nil_iff.mp hr.symm j (List.mem_range'_1.mpr ⟨h1, by omega⟩)
        simpa using this
      have : idxM xs k = none := by
        cases e : idxM xs k with
        | none => rfl
        | some j =>
          obtain ⟨p, hp⟩ := idxM_some e
          have hjl : j < es.size := by rw [hsz]; exact (List.getElem?_eq_some_iff.mp hp).1
          rcases Nat.lt_or_ge j i with h | h
          · exact absurd hp (hno j h p)
          · exact absurd hp (nokey j (hall j h hjl) p)
      rw [this] at h
      exact wpAny_pure h
  have hany : ¬ (es.any fun e => e.key == key && e.hash != k.hash w) = true := by
    rw [← Array.any_toList, List.any_eq_true]
    rintro ⟨e, hmem, hc⟩
    rw [he] at hmem
    obtain ⟨x, hx, rfl⟩ := List.mem_map.mp hmem
    simp only [entM, Bool.and_eq_true, beq_iff_eq, bne_iff_ne, ne_eq] at hc
    obtain ⟨hxa, hne⟩ := hc
    have := (hin x hx).1
    rw [hxa] at this
    exact hne (by rw [NestedIs.inj _ _ _ this hkey])
  unfold dictFind
  try with_reducible refine wpAny_holding ?_
  refine wpAny_bind (wpAny_dictEntries ho hd ?_)
  by_cases hq : ∃ x t, key = .str x t ∧ (es.all fun e => isExactStrKey e.key) = true
  · obtain ⟨x, t, rfl, hs⟩ := hq
    dsimp only
    rw [if_pos hs]
    have hk : k = .text x := NestedIs.inj _ _ _ hkey (.text x t)
    have hf : (es.findIdx? fun e => e.key.isStr x) = idxM xs k := by
      rw [← ent_find (w := w) (k := k) (p := fun e => e.key.isStr x) he fun y hy => ?_]
      · obtain ⟨l⟩ := es; simp
      · show y.2.1.isStr x = _
        rw [mix_isStr (hin y hy).1, hk]
    unfold foundByValue
    rw [hf]
    cases e : idxM xs k with
    | none => rw [e] at h; exact wpAny_pure h
    | some i =>
      rw [e] at h
      obtain ⟨p, hp⟩ := idxM_some e
      have hlt : i < es.size := by rw [hsz]; exact (List.getElem?_eq_some_iff.mp hp).1
      obtain ⟨k', kv, v', e1, e2, e3, e4⟩ := at_ i hlt
      have hkk : k' = k := by
        rw [e1] at hp
        injection hp with hp
        injection hp
      simp only [e2]
      refine wpAny_bind (wpAny_dictEpoch ho hd (wpAny_bind (mix_eq hu e3 e4 hkey (wpAny_bind (wpAny_dictEpoch ho hd ?_)))))
      show wpAny _ _ (if (ep != ep) = true then _ else _) _ E _
      rw [if_neg (by simp), decide_eq_true hkk]
      exact wpAny_bind (wpAny_rule (wpAny_pure h))
  · have shape : key = .none ∨ (∃ b, key = .bool b) ∨ (∃ i t, key = .int i t) ∨ (∃ x t, key = .str x t) ∨ ∃ a, key = .ref a := by
      cases hkey
      · exact .inl rfl
      · exact .inr (.inl ⟨_, rfl⟩)
      · exact .inr (.inr (.inl ⟨_, _, rfl⟩))
      · exact .inr (.inr (.inr (.inl ⟨_, _, rfl⟩)))
      · exact .inr (.inr (.inr (.inr ⟨_, rfl⟩)))
    by_cases hb : ((key :: (placesWithHash es.size (fun i => es[i]?.map (·.hash)) (k.hash w)).filterMap fun i => es[i]?.map (·.key)).all carriedByValue) = true
    · rcases shape with rfl | ⟨b, rfl⟩ | ⟨i, t, rfl⟩ | ⟨x, t, rfl⟩ | ⟨a, rfl⟩
      all_goals
        dsimp only
        first
          | rw [if_neg (fun z => hq ⟨_, _, rfl, z⟩), if_pos hb]
          | rw [if_pos hb]
        exact walkP
    · by_cases hone : (((placesWithHash es.size (fun i => es[i]?.map (·.hash)) (k.hash w)).filterMap (fun i => es[i]?.map (·.key))) == [key]) = true
      all_goals
        rcases shape with rfl | ⟨b, rfl⟩ | ⟨i, t, rfl⟩ | ⟨x, t, rfl⟩ | ⟨a, rfl⟩
        all_goals
          dsimp only
          first
            | rw [if_neg (fun z => hq ⟨_, _, rfl, z⟩), if_neg hb]
            | rw [if_neg hb]
          first
            | rw [if_neg hany]
            | skip
          first
            | rw [if_pos hone]
            | rw [if_neg hone]
          first
            | refine wpAny_bind (wpAny_pure ?_)
            | refine wpAny_bind (mix_quiet hkey hkd hst ?_)
          rw [if_neg (by simp)]
          refine wpAny_bind ?_
          refine wpAny_forIn_list _
            (fun rest b s' => s' = s ∧ ∃ i hit, b = (none, hit) ∧ rest = (List.range' i (es.size - i)).filter (fun i => (es[i]?.map (·.hash)) == some (k.hash w)) ∧ i ≤ es.size ∧
              ((hit = none ∧ ∀ j p, j < i → xs[j]? ≠ some (k, p)) ∨ ∃ j p, hit = some j ∧ j < i ∧ xs[j]? = some (k, p))) _ ?_ ?_ _ _
            ⟨rfl, 0, none, rfl, by rw [placesWithHash, List.range_eq_range', Nat.sub_zero], Nat.zero_le _, .inl ⟨rfl, fun _ _ h => absurd h (Nat.not_lt_zero _)⟩⟩
          · rintro x rest b s' ⟨rfl, i, hit, rfl, hr, hi, hH⟩
            obtain ⟨hix, hxn, hpx, hskip, hrest⟩ := filter_range'_cons _ _ _ _ _ hr.symm
            have hlt : x < es.size := by omega
            have hrest' : rest = (List.range' (x + 1) (es.size - (x + 1))).filter (fun i => (es[i]?.map (·.hash)) == some (k.hash w)) := by rw [hrest]; congr 2; omega
            obtain ⟨k', kv, v', e1, e2, e3, e4⟩ := at_ x hlt
            have hHx : (hit = none ∧ ∀ j p, j < x → xs[j]? ≠ some (k, p)) ∨ ∃ j p, hit = some j ∧ j < x ∧ xs[j]? = some (k, p) := by
              rcases hH with ⟨h0, hno⟩ | ⟨j, p, h1, hji, hj⟩
              · refine .inl ⟨h0, fun j p hjx => ?_⟩
                rcases Nat.lt_or_ge j i with h | h
                · exact hno j p h
                · exact nokey j (hskip j h hjx) p
              · exact .inr ⟨j, p, h1, by omega, hj⟩
            have hstay : ¬ k' = k → ((hit = none ∧ ∀ j p, j < x + 1 → xs[j]? ≠ some (k, p)) ∨ ∃ j p, hit = some j ∧ j < x + 1 ∧ xs[j]? = some (k, p)) := by
              intro hne
              rcases hHx with ⟨h0, hno⟩ | ⟨j, p, h1, hjx, hj⟩
              · refine .inl ⟨h0, fun j p hjx hj => ?_⟩
                rcases Nat.lt_or_ge j x with h | h
                · exact hno j p h hj
                · have hjx' : j = x := by omega
                  subst hjx'
                  rw [e1] at hj
                  injection hj with hj
                  injection hj with hj
                  exact hne hj
              · exact .inr ⟨j, p, h1, by omega, hj⟩
            rw [e2]
            dsimp only
            by_cases hh : (k'.hash w == k.hash w) = true
            · rw [if_pos hh]
              refine wpAny_bind (wpAny_dictEpoch ho hd (wpAny_bind (mix_eq hu e3 e4 hkey (wpAny_bind (wpAny_dictEpoch ho hd ?_)))))
              show wpAny _ _ (if (ep != ep) = true then _ else _) _ E _
              rw [if_neg (by simp)]
              by_cases hkk : k' = k
              · rw [decide_eq_true hkk]
                subst hkk
                rcases hHx with ⟨rfl, _⟩ | ⟨j, p, _, hjx, hj⟩
                · first
                    | rw [if_pos rfl]
                    | skip
                  simp only [Option.isSome_none, Bool.false_eq_true, if_false]
                  first
                    | refine wpAny_bind (wpAny_pure ?_)
                    | skip
                  refine wpAny_bind (wpAny_rule ?_)
                  split
                  · exact wpAny_pure (wpAny_pure (by rw [idxM_of hn e1] at h; exact h))
                  · exact wpAny_pure ⟨rfl, x + 1, some x, rfl, hrest', hlt, .inr ⟨x, _, rfl, Nat.lt_succ_self x, e1⟩⟩
                · exact absurd (mix_unique hn hj e1) (by omega)
              · rw [decide_eq_false hkk]
                simp only [Bool.false_eq_true, if_false]
                refine wpAny_bind (wpAny_rule ?_)
                first
                  | rw [if_neg (by simp)]
                  | skip
                first
                  | exact wpAny_pure ⟨rfl, x + 1, hit, rfl, hrest', hlt, hstay hkk⟩
                  | exact wpAny_bind (wpAny_pure (wpAny_pure ⟨rfl, x + 1, hit, rfl, hrest', hlt, hstay hkk⟩))
            · rw [if_neg hh]
              refine wpAny_pure ⟨rfl, x + 1, hit, rfl, hrest', hlt, hstay ?_⟩
              intro hkk
              rw [hkk] at hh; simp at hh
          · rintro b s' ⟨rfl, i, hit, rfl, hr, hi, hH⟩
            have hall : ∀ j, i ≤ j → j < es.size → ((es[j]?.map (·.hash)) == some (k.hash w)) = false := by
              intro j h1 h2
              have := List.filter_eq_nil_iff.mp hr.symm j (List.mem_range'_1.mpr ⟨h1, by omega⟩)
              simpa using this
            rcases hH with ⟨rfl, hno⟩ | ⟨j, p, rfl, _, hj⟩
            · have : idxM xs k = none := by
                cases e : idxM xs k with
                | none => rfl
                | some j =>
                  obtain ⟨p, hp⟩ := idxM_some e
                  have hjl : j < es.size := by rw [hsz]; exact (List.getElem?_eq_some_iff.mp hp).1
                  rcases Nat.lt_or_ge j i with h | h
                  · exact absurd hp (hno j p h)
                  · exact absurd hp (nokey j (hall j h hjl) p)
              rw [this] at h
              exact wpAny_pure h
            · rw [idxM_of hn hj] at h
              exact wpAny_pure h
end
/-! ### tables of such, looked up and changed -/
section
variable {β : Type}
def valM : List (NestedKey × β × β) → NestedKey → Option β
  | [], _ => none
  | p :: r, k => if p.1 = k then some p.2.2 else valM r k
def putM : List (NestedKey × β × β) → NestedKey → β → β → List (NestedKey × β × β)
  | [], k, y, v => [(k, y, v)]
  | p :: r, k, y, v => if p.1 = k then (p.1, p.2.1, v) :: r else p :: putM r k y v
def dropM : List (NestedKey × β × β) → NestedKey → List (NestedKey × β × β)
  | [], _ => []
  | p :: r, k => if p.1 = k then r else p :: dropM r k
theorem idxM_cons {p : NestedKey × β × β} {r : List (NestedKey × β × β)} {k : NestedKey} : idxM (p :: r) k = if p.1 = k then some 0 else (idxM r k).map (· + 1) := by
  unfold idxM
  rw [List.findIdx?_cons]
  by_cases e : p.1 = k
  · rw [if_pos (decide_eq_true e), if_pos e]
  · rw [if_neg (by rw [decide_eq_false e]; exact Bool.false_ne_true), if_neg e]
theorem idx_val : ∀ {xs : List (NestedKey × β × β)} {k : NestedKey}, valM xs k = (idxM xs k).bind fun j => (xs[j]?).map (·.2.2)
  | [], _ => rfl
  | p :: r, k => by
    rw [idxM_cons, valM]
    by_cases e : p.1 = k
    · rw [if_pos e, if_pos e]; rfl
    · rw [if_neg e, if_neg e, idx_val]
      cases idxM r k with
      | none => rfl
      | some j => rfl
theorem idx_put_none : ∀ {xs : List (NestedKey × β × β)} {k : NestedKey} {y v : β}, idxM xs k = none → putM xs k y v = xs ++ [(k, y, v)]
  | [], _, _, _, _ => rfl
  | p :: r, k, y, v, h => by
    rw [idxM_cons] at h
    by_cases e : p.1 = k
    · rw [if_pos e] at h; cases h
    · rw [if_neg e] at h
      rw [putM, if_neg e, idx_put_none (xs := r) (by cases q : idxM r k with | none => rfl | some j => rw [q] at h; cases h)]
      rfl
theorem idx_put_some {γ : Type} {f : NestedKey × β × β → γ} {g : γ → γ} {v : β} (hg : ∀ p : NestedKey × β × β, g (f p) = f (p.1, p.2.1, v)) : ∀ {xs : List (NestedKey × β × β)} {k : NestedKey} {y : β} {j : Nat}, idxM xs k = some j → (xs.map f).modify j g = (putM xs k y v).map f
  | [], _, _, _, h => by cases h
  | p :: r, k, y, j, h => by
    rw [idxM_cons] at h
    by_cases e : p.1 = k
    · rw [if_pos e] at h
      cases h
      rw [putM, if_pos e, List.map_cons, List.map_cons, List.modify_zero_cons, hg]
    · rw [if_neg e] at h
      cases q : idxM r k with
      | none => rw [q] at h; cases h
      | some i =>
        rw [q] at h
        cases h
        rw [putM, if_neg e, List.map_cons, List.map_cons, List.modify_succ_cons, idx_put_some hg q]
theorem put_mem : ∀ {xs : List (NestedKey × β × β)} {k : NestedKey} {y v : β} {x : NestedKey × β × β}, x ∈ putM xs k y v → (∃ z ∈ xs, z.1 = x.1 ∧ z.2.1 = x.2.1) ∨ x = (k, y, v)
  | [], _, _, _, x, h => .inr (by simpa [putM] using h)
  | p :: r, k, y, v, x, h => by
    rw [putM] at h
    by_cases e : p.1 = k
    · rw [if_pos e] at h
      rcases List.mem_cons.mp h with rfl | h
      · exact .inl ⟨p, List.mem_cons_self, rfl, rfl⟩
      · exact .inl ⟨x, List.mem_cons_of_mem _ h, rfl, rfl⟩
    · rw [if_neg e] at h
      rcases List.mem_cons.mp h with rfl | h
      · exact .inl ⟨x, List.mem_cons_self, rfl, rfl⟩
      · rcases put_mem h with ⟨z, hz, q⟩ | q
        · exact .inl ⟨z, List.mem_cons_of_mem _ hz, q⟩
        · exact .inr q
theorem put_nodup : ∀ {xs : List (NestedKey × β × β)} {k : NestedKey} {y v : β}, (xs.map (·.1)).Nodup → ((putM xs k y v).map (·.1)).Nodup
  | [], _, _, _, _ => by simp [putM]
  | p :: r, k, y, v, h => by
    rw [List.map_cons, List.nodup_cons] at h
    rw [putM]
    by_cases e : p.1 = k
    · rw [if_pos e, List.map_cons, List.nodup_cons]; exact h
    · rw [if_neg e, List.map_cons, List.nodup_cons]
      refine ⟨fun z => ?_, put_nodup h.2⟩
      obtain ⟨x, hx, q⟩ := List.mem_map.mp z
      rcases put_mem hx with ⟨u, hu, q1, _⟩ | q1
      · exact h.1 (List.mem_map.mpr ⟨u, hu, q1.trans q⟩)
      · rw [q1] at q; exact e q.symm
theorem put_len : ∀ {xs : List (NestedKey × β × β)} {k : NestedKey} {y v : β}, (putM xs k y v).length ≤ xs.length + 1
  | [], _, _, _ => by simp [putM]
  | p :: r, k, y, v => by
    rw [putM]
    by_cases e : p.1 = k
    · rw [if_pos e]; simp
    · rw [if_neg e, List.length_cons, List.length_cons]; have := put_len (xs := r) (k := k) (y := y) (v := v); omega
end
section
variable {prog : Program} {w : World} {A : Around} {E : Value → Shared → Prop} {s : Shared} {d : Addr} {xs : MX} {k : NestedKey} {key : Value}
theorem MixAt.typeIs {s : Shared} (m : MixAt w s.heap d xs) : s.TypeIs (.ref d) "dict" := let ⟨o, _, _, ho, hc, _⟩ := m; ⟨o, ho, hc.1⟩
theorem KeysIn.but {h h' : Heap} {o : Obj} {es : Array DictEntry} {ep : Nat} (hx : KeysIn h xs) (ho : h.get? d = some o) (hd : o.data = .dict es ep) (hs : Heap.SameBut d h h') : KeysIn h' xs := fun x m => ⟨NestedIs.at (fun b ob vs n hb hc => by
  refine (hs.2 b fun e => ?_).trans hb
  subst e
  rw [ho] at hb
  cases hb
  rw [hd] at hc
  cases hc) _ _ (hx x m).1, (hx x m).2⟩
theorem mix_get {Q : Option Value → Shared → Prop} (hu : A.units + 8 < cLine) (hk : NestedIs s.heap k key) (hkd : k.depth ≤ 8) (m : MixAt w s.heap d xs) (hin : KeysIn s.heap xs) (h : Q (valM xs k) { s with toks := s.toks + k.draws }) :
    wpAny (model prog w) A (dictGet d key) Q E s := by
  obtain ⟨o, es, ep, ho, hc, hd, he, hn⟩ := m
  unfold dictGet
  try with_reducible refine wpAny_holding ?_
  refine wpAny_bind (pyHash_key k key _ _ _ hk (by omega) (wpAny_bind (mix_find (s := { s with toks := s.toks + k.draws }) hu hk hkd ho hd he hin hn ?_)))
  rw [idx_val] at h
  cases e : idxM xs k with
  | none => rw [e] at h; exact wpAny_pure h
  | some j =>
    rw [e] at h
    refine wpAny_bind (wpAny_dictEntries (s := { s with toks := s.toks + k.draws }) ho hd ?_)
    rw [ent_at he j]
    refine wpAny_pure ?_
    obtain ⟨p, hp⟩ := idxM_some e
    change Q ((xs[j]?).map (·.2.2)) _ at h
    rw [hp] at h ⊢
    exact h
theorem mix_set {v : Value} {Q : Unit → Shared → Prop} (hu : A.units + 8 < cLine) (hk : NestedIs s.heap k key) (hkd : k.depth ≤ 8) (m : MixAt w s.heap d xs) (hin : KeysIn s.heap xs) (hz : xs.length ≤ sizeLine)
    (hQ : ∀ h', MixAt w h' d (putM xs k key v) → Heap.SameBut d s.heap h' → Q () { s with heap := h', toks := s.toks + k.draws }) : wpAny (model prog w) A (dictSet d key v) Q E s := by
  obtain ⟨o, es, ep, ho, hc, hd, he, hn⟩ := m
  unfold dictSet
  try with_reducible refine wpAny_holding ?_
  refine wpAny_bind (pyHash_key k key _ _ _ hk (by omega) ?_)
  unfold dictSetHashed
  try with_reducible refine wpAny_holding ?_
  refine wpAny_bind (mix_find (s := { s with toks := s.toks + k.draws }) hu hk hkd ho hd he hin hn ?_)
  cases e : idxM xs k with
  | none =>
    refine wpAny_bind (wpAny_rule (wpAny_updateDictKeys (hz := by have e := ent_size he; omega) (s := { s with toks := s.toks + k.draws }) ho hd (hQ _ ⟨_, _, ep + 1, Heap.get?_update_self _ ho (Obj.isFreed_of_dict (Obj.data_mapDictKeys hd _)),
      hc.mapDictKeys _, Obj.data_mapDictKeys hd _, ?_, put_nodup hn⟩ (Heap.SameBut.update ..))))
    rw [idx_put_none e]
    simp [he, entM]
  | some j =>
    refine wpAny_bind (wpAny_rule (wpAny_bind (wpAny_updateDict (s := { s with toks := s.toks + k.draws }) ho hd (wpAny_point (hQ _ ⟨_, _, ep, Heap.get?_update_self _ ho (Obj.isFreed_of_dict (Obj.data_mapDict hd _)),
      hc.mapDict _, Obj.data_mapDict hd _, ?_, put_nodup hn⟩ (Heap.SameBut.update ..))))))
    have := idx_put_some (f := entM w) (g := fun e : DictEntry => { e with val := v }) (v := v) (fun p => rfl) (y := key) e
    rw [← he] at this
    rw [← this]
    obtain ⟨l⟩ := es
    simp
theorem mix_contains {Q : Bool → Shared → Prop} (hu : A.in1.units + 8 < cLine) (hk : NestedIs s.heap k key) (hkd : k.depth ≤ 8) (hd : (d == sysModules) = false) (m : MixAt w s.heap d xs) (hin : KeysIn s.heap xs) (h : Q (valM xs k).isSome { s with toks := s.toks + k.draws }) :
    wpAny (model prog w) A (contains (.ref d) key) Q E s := by
  unfold contains
  try with_reducible refine wpAny_holding ?_
  refine wpAny_bind (wpAny_specialOf m.typeIs slot_dict_contains.lookup ?_)
  show wpAny _ _ (if (some (Value.builtin "dict.__contains__") == some Value.none) = true then _ else _) _ E s
  rw [if_neg (by rw [beq_builtin_none]; exact Bool.false_ne_true)]
  refine wpAny_bind (wpAny_callSpecialUnlessNone?_slot (name := Str.ofString "__contains__") m.typeIs slot_dict_contains
    (wpAny_call_entry slot_dict_contains m.typeIs entry_dict_contains ?_ (args_dict_contains _ _)))
  show wpAny _ _ (dictGet d key >>= _) _ _ s
  refine wpAny_bind (mix_get hu hk hkd m hin ?_)
  cases hf : valM xs k with
  | some v =>
    rw [hf] at h
    show wpAny _ _ (ret (.bool true)) _ _ _
    exact wpAny_pure ⟨_, rfl, wpAny_truthy_bool h⟩
  | none =>
    rw [hf] at h
    show wpAny _ _ (Builtin.Dict.pendingKey? d key >>= _) _ _ _
    exact wpAny_bind (wpAny_pendingKey_other hd (wpAny_pure ⟨_, rfl, wpAny_truthy_bool h⟩))
theorem mix_getItem {v : Value} {Q : Value → Shared → Prop} (hu : A.in1.units + 8 < cLine) (hk : NestedIs s.heap k key) (hkd : k.depth ≤ 8) (m : MixAt w s.heap d xs) (hin : KeysIn s.heap xs) (hv : valM xs k = some v) (h : Q v { s with toks := s.toks + k.draws }) :
    wpAny (model prog w) A (getItem (.ref d) key) Q E s := by
  unfold getItem
  try with_reducible refine wpAny_holding ?_
  refine wpAny_bind (wpAny_sequenceKey m.typeIs (by decide) ?_)
  refine wpAny_bind (wpAny_callSpecial?_slot (name := Str.ofString "__getitem__") m.typeIs slot_dict_getitem
    (wpAny_call_entry slot_dict_getitem m.typeIs entry_dict_getitem ?_ (args_dict_getitem _ _)))
  show wpAny _ _ (dictGet d key >>= _) _ _ s
  refine wpAny_bind (mix_get hu hk hkd m hin ?_)
  rw [hv]
  exact wpAny_pure ⟨v, rfl, wpAny_pure h⟩
theorem mix_setItem {v : Value} {Q : Unit → Shared → Prop} (hu : A.in1.units + 8 < cLine) (hk : NestedIs s.heap k key) (hkd : k.depth ≤ 8) (m : MixAt w s.heap d xs) (hin : KeysIn s.heap xs) (hz : xs.length ≤ sizeLine)
    (hQ : ∀ h', MixAt w h' d (putM xs k key v) → Heap.SameBut d s.heap h' → Q () { s with heap := h', toks := s.toks + k.draws }) : wpAny (model prog w) A (setItem (.ref d) key v) Q E s := by
  unfold setItem
  try with_reducible refine wpAny_holding ?_
  refine wpAny_bind (wpAny_sequenceKey m.typeIs (by decide) ?_)
  refine wpAny_bind (wpAny_callSpecial?_slot (name := Str.ofString "__setitem__") m.typeIs slot_dict_setitem
    (wpAny_call_entry slot_dict_setitem m.typeIs entry_dict_setitem ?_ (args_dict_setitem _ _ _)))
  show wpAny _ _ (Builtin.Dict.notOrdered "__setitem__" ⟨[.ref d, key, v], []⟩ >>= _) _ _ s
  refine wpAny_bind (wpAny_notOrdered_dict m.typeIs ?_)
  show wpAny _ _ (dictSet d key v >>= _) _ _ s
  exact wpAny_bind (mix_set hu hk hkd m hin hz fun h' m' hs' => wpAny_pure ⟨.none, rfl, wpAny_pure (hQ h' m' hs')⟩)
end
end Ox
namespace Ox
open PySem PySem.Spec PyProof.Rows L2
/-! ### as objects of the abstract heap -/
mutual
/-- the value v is the key k -/
inductive KeyV (K : PySem.W.Frag) (H : Hp) : NestedKey → V → Prop where
  | non : KeyV K H .none .non
  | bl (b : Bool) : KeyV K H (.num (if b = true then 1 else 0)) (.bl b)
  | int (i : Int) : KeyV K H (.num i) (.int i)
  | text (x : Str) : KeyV K H (.text x) (.str x)
  | tup {a : Addr} {vs : List V} {ks : List NestedKey} : SqT K H a vs → KeyVs K H ks vs → KeyV K H (.tup ks) (.ref a)
inductive KeyVs (K : PySem.W.Frag) (H : Hp) : List NestedKey → List V → Prop where
  | nil : KeyVs K H [] []
  | cons {k : NestedKey} {v : V} {ks : List NestedKey} {vs : List V} : KeyV K H k v → KeyVs K H ks vs → KeyVs K H (k :: ks) (v :: vs)
end
mutual
theorem KeyV.via {K : PySem.W.Frag} {H H' : Hp} (f : ∀ a vs, SqT K H a vs → SqT K H' a vs) : ∀ {k : NestedKey} {v : V}, KeyV K H k v → KeyV K H' k v
  | _, _, .non => .non
  | _, _, .bl b => .bl b
  | _, _, .int i => .int i
  | _, _, .text x => .text x
  | _, _, .tup h hs => .tup (f _ _ h) (KeyVs.via f hs)
theorem KeyVs.via {K : PySem.W.Frag} {H H' : Hp} (f : ∀ a vs, SqT K H a vs → SqT K H' a vs) : ∀ {ks : List NestedKey} {vs : List V}, KeyVs K H ks vs → KeyVs K H' ks vs
  | _, _, .nil => .nil
  | _, _, .cons h hs => .cons (KeyV.via f h) (KeyVs.via f hs)
end
section
variable {X : Cx} {pins : List (Addr × Obj)} {σ : L2.St} {H : Hp} {s : Shared}
mutual
theorem KeyV.is (I : Inv X pins σ H s) : ∀ {k : NestedKey} {v : V}, KeyV X.K H k v → ∀ {u : Value}, RelV v u → NestedIs s.heap k u
  | _, _, .non, _, r => by cases (show _ = Value.none from r); exact .none
  | _, _, .bl b, _, r => by cases (show _ = Value.bool b from r); exact .bool rfl
  | _, _, .int i, _, r => by obtain ⟨t, rfl⟩ := r; exact .int i t
  | _, _, .text x, _, r => by obtain ⟨t, rfl⟩ := r; exact .text x t
  | _, _, .tup (a := a) h hs, _, r => by
    cases (show _ = Value.ref a from r)
    obtain ⟨its, rv, ⟨o, h1, h2, n, h3⟩, _⟩ := I.tuple h
    exact .tup h1 h2 h3 (by simpa using KeyVs.is I hs rv)
theorem KeyVs.is (I : Inv X pins σ H s) : ∀ {ks : List NestedKey} {vs : List V}, KeyVs X.K H ks vs → ∀ {us : List Value}, Vals vs us → NestedAll s.heap ks us
  | _, _, .nil, _, r => by cases r; exact .nil
  | _, _, .cons h hs, _, r => by
    cases r with
    | cons r1 r2 => exact .cons (KeyV.is I h r1) (KeyVs.is I hs r2)
end
end
abbrev MV := List (NestedKey × V × V)
def RM (p : NestedKey × V × V) (q : NestedKey × Value × Value) : Prop := p.1 = q.1 ∧ RelV p.2.1 q.2.1 ∧ RelV p.2.2 q.2.2
def phM (w : World) (a : Addr) (kvs : MV) (h : Heap) : Prop := kvs.length ≤ sizeLine ∧ (a == sysModules) = false ∧ ∃ xs, Paired RM kvs xs ∧ MixAt w h a xs
/-- a dict with keys of many kinds -/
def dM (w : World) (a : Addr) (kvs : MV) : HO := .ext (phM w a kvs)
theorem dM_mk {P : Program} {w : World} {H : Hp} {h : Heap} {a : Addr} {kvs : MV} (p : phM w a kvs h) : ObjOk P w H h a (dM w a kvs) := by
  refine ⟨p, ?_, fun h1 h2 q k => ?_⟩
  · obtain ⟨_, _, _, _, o, _, _, e, _⟩ := p
    exact ⟨o, e⟩
  · obtain ⟨q1, q2, xs, q3, o, es, ep, e, r⟩ := q
    exact ⟨q1, q2, xs, q3, o, es, ep, k o e, r⟩
def nk : Key → NestedKey
  | .inl i => .num i
  | .inr x => .text x
theorem nk_inj {a b : Key} (h : nk a = nk b) : a = b := by
  cases a <;> cases b
  · injection h with h; rw [h]
  · cases h
  · cases h
  · injection h with h; rw [h]
def toM (p : Key × V) : NestedKey × V × V := (nk p.1, kV p.1, p.2)
/-- a dict of whole numbers and texts, as one of those -/
def MRd (w : World) (H : Hp) (a : Addr) (kvs : MV) : Prop := Rd H a (dM w a kvs) ∨ ∃ ks, Rd H a (.dK ks) ∧ kvs = ks.map toM
def MWr (w : World) (H : Hp) (a : Addr) (kvs : MV) : Prop := H a = some (dM w a kvs) ∨ ∃ ks, H a = some (.dK ks) ∧ kvs = ks.map toM
theorem MWr.rd {w : World} {H : Hp} {a : Addr} {kvs : MV} (h : MWr w H a kvs) : MRd w H a kvs := h.imp .inl fun ⟨ks, e, q⟩ => ⟨ks, .inl e, q⟩
theorem MRd.same {w : World} {H H' : Hp} {a : Addr} {kvs : MV} (s : L2.Same H H') (h : MRd w H a kvs) : MRd w H' a kvs := h.imp (rd_same s) fun ⟨ks, e, q⟩ => ⟨ks, rd_same s e, q⟩
theorem MWr.same {w : World} {H H' : Hp} {a : Addr} {kvs : MV} (s : L2.Same H H') (h : MWr w H a kvs) : MWr w H' a kvs := h.imp (s _ _) fun ⟨ks, e, q⟩ => ⟨ks, s _ _ e, q⟩
theorem mix_of_dK {P : Program} {w : World} {es : List DictEntry} (hk : ∀ e ∈ es, ∃ k, (mixKind P w).is k e.key = true ∧ e.hash = (mixKind P w).hash k) : ∀ {ks : List (Key × V)} {vs : List (Key × Value)}, Pairs (mixKind P w) es vs → KV ks vs → ∃ xs : MX, es = xs.map (entM w) ∧ Paired RM (ks.map toM) xs ∧ xs.map (·.1) = vs.map (fun p => nk p.1) := by
  intro ks vs hp
  induction hp generalizing ks with
  | nil => intro r; cases r; exact ⟨[], rfl, .nil, rfl⟩
  | @cons e kv es' kvs' h1 h2 t ih =>
    intro r
    cases r with
    | @cons p _ ps _ r1 r2 =>
      obtain ⟨xs, i1, i2, i3⟩ := ih (fun e m => hk e (List.mem_cons_of_mem _ m)) r2
      obtain ⟨k', g1, g2⟩ := hk e List.mem_cons_self
      have ek : k' = kv.1 := (mixKind P w).inj _ _ _ g1 h1
      subst ek
      refine ⟨(nk kv.1, e.key, e.val) :: xs, ?_, .cons ⟨?_, ?_, ?_⟩ i2, ?_⟩
      · rw [List.map_cons, ← i1]
        congr 1
        show e = ⟨(nk kv.1).hash w, e.key, e.val⟩
        have : e.hash = (nk kv.1).hash w := by
          rw [g2]
          cases kv.1 with
          | inl i => rfl
          | inr x => rfl
        rw [← this]
      · show nk p.1 = nk kv.1
        rw [r1.1]
      · show RelV (kV p.1) e.key
        rw [r1.1]
        rcases keyIs_shape (show keyIs kv.1 e.key = true from h1) with ⟨i, u, e1, e2⟩ | ⟨x, u, e1, e2⟩
        · rw [e1, e2]; exact ⟨u, rfl⟩
        · rw [e1, e2]; exact ⟨u, rfl⟩
      · show RelV p.2 e.val
        rw [h2]
        exact r1.2
      · rw [List.map_cons, List.map_cons, i3]
theorem phM_dK {P : Program} {w : World} {H : Hp} {h : Heap} {a : Addr} {ks : List (Key × V)} (o : ObjOk P w H h a (.dK ks)) : phM w a (ks.map toM) h := by
  obtain ⟨z, hd, vs, rel, ob, es, ep, h1, h2, h3, h4, h5, h6⟩ := o
  obtain ⟨xs, i1, i2, i3⟩ := mix_of_dK (fun e m => h4 e (Array.mem_toList_iff.mp m)) h5 rel
  refine ⟨by rw [List.length_map]; exact z, hd, xs, i2, ob, es, ep, h1, h2, h3, i1, ?_⟩
  rw [i3, show vs.map (fun p => nk p.1) = (vs.map (·.1)).map nk by rw [List.map_map]; rfl]
  exact List.pairwise_map.mpr (h6.imp fun h e => h (nk_inj e))
theorem MRd.ph {P : Program} {w : World} {H : Hp} {h : Heap} {a : Addr} {kvs : MV} (ok : HOk P w H h) (m : MRd w H a kvs) : phM w a kvs h := by
  rcases m with m | ⟨ks, m, rfl⟩
  · exact (show ObjOk P w H h a (dM w a kvs) from m.ok ok).1
  · exact phM_dK (P := P) (H := H) (m.ok ok)
/-- the keys are what they are told as -/
def KeysOk (K : PySem.W.Frag) (H : Hp) (kvs : MV) : Prop := ∀ p ∈ kvs, KeyV K H p.1 p.2.1 ∧ p.1.depth ≤ 8
theorem KeysOk.via {K : PySem.W.Frag} {H H' : Hp} {kvs : MV} (f : ∀ a vs, SqT K H a vs → SqT K H' a vs) (h : KeysOk K H kvs) : KeysOk K H' kvs := fun p m => ⟨(h p m).1.via f, (h p m).2⟩
theorem keysOk_dK (K : PySem.W.Frag) (H : Hp) (ks : List (Key × V)) : KeysOk K H (ks.map toM) := fun p m => by
  obtain ⟨q, _, rfl⟩ := List.mem_map.mp m
  obtain ⟨k, v⟩ := q
  cases k with
  | inl i => exact ⟨.int i, Nat.zero_le _⟩
  | inr x => exact ⟨.text x, Nat.zero_le _⟩
theorem rm_mem {kvs : MV} {xs : MX} (r : Paired RM kvs xs) : ∀ x ∈ xs, ∃ p ∈ kvs, RM p x := by
  induction r with
  | nil => intro x m; cases m
  | cons h t ih =>
    intro x m
    rcases List.mem_cons.mp m with rfl | m
    · exact ⟨_, List.mem_cons_self, h⟩
    · obtain ⟨p, hp, q⟩ := ih x m
      exact ⟨p, List.mem_cons_of_mem _ hp, q⟩
theorem rm_val {kvs : MV} {xs : MX} (r : Paired RM kvs xs) (k : NestedKey) : RelO (valM kvs k) (valM xs k) := by
  induction r with
  | nil => exact True.intro
  | @cons p x _ _ h t ih =>
    rw [valM, valM, h.1]
    by_cases e : x.1 = k
    · rw [if_pos e, if_pos e]; exact h.2.2
    · rw [if_neg e, if_neg e]; exact ih
theorem rm_put {kvs : MV} {xs : MX} (r : Paired RM kvs xs) (k : NestedKey) {y v : V} {u z : Value} (ry : RelV y u) (rv : RelV v z) : Paired RM (putM kvs k y v) (putM xs k u z) := by
  induction r with
  | nil => exact .cons ⟨rfl, ry, rv⟩ .nil
  | @cons p x _ _ h t ih =>
    rw [putM, putM, h.1]
    by_cases e : x.1 = k
    · rw [if_pos e, if_pos e]; exact .cons ⟨rfl, h.2.1, rv⟩ t
    · rw [if_neg e, if_neg e]; exact .cons h ih
/-- what the dict at a holds at the key y -/
def MGet (K : PySem.W.Frag) (w : World) (H : Hp) (a : Addr) (y : V) (r : Option V) : Prop := ∃ kvs k, MRd w H a kvs ∧ KeysOk K H kvs ∧ KeyV K H k y ∧ k.depth ≤ 8 ∧ r = valM kvs k
section
variable {X : Cx} {pins : List (Addr × Obj)} {σ : L2.St} {H : Hp} {s : Shared} {a : Addr} {y v : V} {u r : Value} {o : Option V} {A : Around} {E : Value → Shared → Prop}
theorem m_keys {kvs : MV} {xs : MX} (I : Inv X pins σ H s) (hk : KeysOk X.K H kvs) (rel : Paired RM kvs xs) : KeysIn s.heap xs := fun x m => by
  obtain ⟨p, hp, q1, q2, _⟩ := rm_mem rel x m
  rw [← q1]
  exact ⟨(hk p hp).1.is I q2, (hk p hp).2⟩
theorem m_getItem {Q : Value → Shared → Prop} (hu : A.units + 100 < cLine) (I : Inv X pins σ H s) (g : MGet X.K X.w H a y (some v)) (ry : RelV y u) (h : ∀ z s', Inv X pins σ H s' → RelV v z → Q z s') : wpAny (model X.prog X.w) A (getItem (.ref a) u) Q E s := by
  obtain ⟨kvs, k, e, hk, ey, kd, l⟩ := g
  obtain ⟨_, _, xs, rel, dd⟩ := e.ph I.hok
  obtain ⟨z, hz, rz⟩ := RelO.some_of (v := v) (o := valM xs k) (by rw [l]; exact rm_val rel k)
  exact mix_getItem (by simp only [Around.in1_units]; omega) (ey.is I ry) kd dd (m_keys I hk rel) hz (h z _ (I.tok _) rz)
theorem m_contains {Q : Bool → Shared → Prop} (hu : A.units + 100 < cLine) (I : Inv X pins σ H s) (g : MGet X.K X.w H a y o) (ry : RelV y u) (h : ∀ s', Inv X pins σ H s' → Q o.isSome s') : wpAny (model X.prog X.w) A (contains (.ref a) u) Q E s := by
  obtain ⟨kvs, k, e, hk, ey, kd, l⟩ := g
  obtain ⟨_, hd, xs, rel, dd⟩ := e.ph I.hok
  refine mix_contains (by simp only [Around.in1_units]; omega) (ey.is I ry) kd hd dd (m_keys I hk rel) ?_
  rw [← (rm_val rel k).isSome_eq, ← l]
  exact h _ (I.tok _)
theorem m_setItem {kvs : MV} {k : NestedKey} {Q : Unit → Shared → Prop} (hu : A.units + 100 < cLine) (I : Inv X pins σ H s) (e : MWr X.w H a kvs) (hk : KeysOk X.K H kvs) (ey : KeyV X.K H k y) (kd : k.depth ≤ 8) (hl : kvs.length < sizeLine) (ry : RelV y u) (rv : RelV v r)
    (h : ∀ s', Inv X pins σ (upd H a (dM X.w a (putM kvs k y v))) s' → Q () s') : wpAny (model X.prog X.w) A (setItem (.ref a) u r) Q E s := by
  obtain ⟨z, hd, xs, rel, dd⟩ := e.rd.ph I.hok
  have hz : xs.length ≤ sizeLine := by rw [← Paired.length rel]; exact z
  refine mix_setItem (by simp only [Around.in1_units]; omega) (ey.is I ry) kd dd (m_keys I hk rel) hz fun h' dd' hs => h _ ?_
  have he : ∃ q, h'.get? a = some q := let ⟨q, _, _, hq, _⟩ := dd'; ⟨q, hq⟩
  have hl2 : (putM kvs k y v).length ≤ sizeLine := by have := put_len (xs := kvs) (k := k) (y := y) (v := v); omega
  exact d_write I (by rcases e with e | ⟨_, e, _⟩ <;> rw [e] <;> exact True.intro) hs he (dM_mk ⟨hl2, hd, _, rm_put rel k ry rv, dd'⟩)
theorem m_typeIs {kvs : MV} (I : Inv X pins σ H s) (g : MRd X.w H a kvs) : s.TypeIs (.ref a) "dict" := by
  obtain ⟨_, _, xs, _, dd⟩ := g.ph I.hok
  exact dd.typeIs
end
/-! ### readings and rules -/
def tMGet (K : PySem.W.Frag) (w : World) (td ty : TE) : TE := fun σ H Q => td σ H fun x H1 => ty σ H1 fun y H2 => ∃ a v, x = .ref a ∧ MGet K w H2 a y (some v) ∧ Q v H2
def tMIn (K : PySem.W.Frag) (w : World) (ty td : TE) : TE := fun σ H Q => ty σ H fun y H1 => td σ H1 fun x H2 => ∃ a o, x = .ref a ∧ MGet K w H2 a y o ∧ Q (.bl o.isSome) H2
def tMNotIn (K : PySem.W.Frag) (w : World) (ty td : TE) : TE := fun σ H Q => ty σ H fun y H1 => td σ H1 fun x H2 => ∃ a o, x = .ref a ∧ MGet K w H2 a y o ∧ Q (.bl (!o.isSome)) H2
def sMPut (K : PySem.W.Frag) (w : World) (td ty tv : TE) : TS := fun D σ H => tv σ H fun v H1 => td σ H1 fun x H2 => ty σ H2 fun y H3 => ∃ a kvs k, x = .ref a ∧ MWr w H3 a kvs ∧ KeysOk K H3 kvs ∧ KeyV K H3 k y ∧ k.depth ≤ 8 ∧ kvs.length < sizeLine ∧ D.nx σ (upd H3 a (dM w a (putM kvs k y v)))
section
variable {X : Cx} {o i value : Expr} {pos pos' : Pos} {td ty tv : TE}
theorem pe_mget (hu : X.A.units + 100 < cLine) (ho : PE X o td) (hi : PE X i ty) (hs : NoSl i) : PE X (.Subscript o i pos) (tMGet X.K X.w td ty) := by
  refine ⟨fun pins s σ H Q I h => ?_⟩
  refine subD_of PySem.F.slot_dict_getitem.lookup hs (thn (ho.run pins s σ H _ I h) fun u s1 ⟨x, H1, I1, rx, q1⟩ => thn (hi.run pins s1 σ H1 _ I1 q1) fun iv s2 ⟨y, H2, I2, ry, a, v, ex, g, q2⟩ => ?_)
  subst ex
  obtain rfl : u = Value.ref a := rx
  exact ⟨let ⟨_, _, e, _⟩ := g; m_typeIs I2 e, m_getItem hu I2 g ry fun z s3 I3 rz => ⟨v, H2, I3, rz, q2⟩⟩
theorem pc_min (hu : X.A.units + 100 < cLine) (hi : PE X i ty) (ho : PE X o td) : PC X .In i o (tMIn X.K X.w ty td) := by
  refine ⟨fun pins s σ H Q I h => thn (hi.run pins s σ H _ I h) fun iv s1 ⟨y, H1, I1, ry, q1⟩ => thn (ho.run pins s1 σ H1 _ I1 q1) fun u s2 ⟨x, H2, I2, rx, a, ov, ex, g, q2⟩ => ?_⟩
  subst ex
  obtain rfl : u = Value.ref a := rx
  show wpAny _ _ (do return Value.bool (← contains (.ref a) iv)) _ _ s2
  exact wpAny_bind (m_contains hu I2 g ry fun s3 I3 => wpAny_pure ⟨.bl ov.isSome, H2, I3, rfl, q2⟩)
theorem pc_mnotin (hu : X.A.units + 100 < cLine) (hi : PE X i ty) (ho : PE X o td) : PC X .NotIn i o (tMNotIn X.K X.w ty td) := by
  refine ⟨fun pins s σ H Q I h => thn (hi.run pins s σ H _ I h) fun iv s1 ⟨y, H1, I1, ry, q1⟩ => thn (ho.run pins s1 σ H1 _ I1 q1) fun u s2 ⟨x, H2, I2, rx, a, ov, ex, g, q2⟩ => ?_⟩
  subst ex
  obtain rfl : u = Value.ref a := rx
  show wpAny _ _ (do return Value.bool (!(← contains (.ref a) iv))) _ _ s2
  exact wpAny_bind (m_contains hu I2 g ry fun s3 I3 => wpAny_pure ⟨.bl (!ov.isSome), H2, I3, rfl, q2⟩)
theorem ps_mput (hu : X.A.units + 100 < cLine) (ho : PE X o td) (hi : PE X i ty) (hv : PE X value tv) (hs : swapsWith value (some (.Subscript o i pos')) pos.line X.env = pure false) :
    PS X (.Assign [.Subscript o i pos'] value pos) (sMPut X.K X.w td ty tv) := by
  refine ⟨fun pins s σ H D I h => ?_⟩
  refine wpAny_Assign_Subscript (thn (hv.run pins s σ H _ I h) fun r s1 ⟨v, H1, I1, rv, q1⟩ => thn (ho.run pins s1 σ H1 _ I1 q1) fun u s2 ⟨x, H2, I2, rx, q2⟩ => thn (hi.run pins s2 σ H2 _ I2 q2) fun iv s3 ⟨y, H3, I3, ry, a, kvs, k, ex, e, hk, ey, kd, hl, q3⟩ => ?_) hs
  subst ex
  obtain rfl : u = Value.ref a := rx
  exact m_setItem hu I3 e hk ey kd hl ry rv fun s4 I4 => ⟨σ, _, I4, q3⟩
/-- len -/
def rLenM (w : World) : List V → Hp → VK → Prop := fun xs H Q => ∃ (p : Addr) (kvs : MV), xs = [.ref p] ∧ MRd w H p kvs ∧ Q (.int ((kvs.length : Nat) : Int)) H
theorem call_lenM : CallR X (.builtin "len") (rLenM X.w) := by
  intro pins s σ H xs us Q I r h
  obtain ⟨p, kvs, rfl, hp, q⟩ := h
  obtain ⟨u, rfl, rx⟩ := vals1 r
  obtain rfl : u = .ref p := rx
  obtain ⟨z, hd, ys, rel, ob, es, ep, h1, h2, h3, h4, h5⟩ := hp.ph I.hok
  have hl : es.size = kvs.length := by rw [Paired.length rel]; exact ent_size h4
  have hr : s.heap.DictRaw p es ep := ⟨ob, h1, h2, h3⟩
  have hz : ((kvs.length : Nat) : Int) < 2 ^ 63 := by rw [sizeLine_eq] at z; omega
  refine Calls.call_function_entry kind_len plain_len entry_len (args_len1 _) ?_
  unfold Builtin.«len»
  refine wpAny_bind (m := oneArg "len" _) (wpAny_pure ?_)
  refine wpAny_bind (m := callSpecial? (.ref p) (Str.ofString "__len__")) (wpAny_callSpecial?_slot (name := Str.ofString "__len__") hr.typeIs F.slot_dict_len (call_len_raw hd hr ?_))
  rw [hl]
  show wpAny _ _ _ _ _ { s with toks := s.toks + 1 }
  refine wpAny_bind (wpAny_holding (wpAny_pure ?_))
  refine wpAny_bind (wpAny_letGo ?_)
  show wpAny _ _ (if ((kvs.length : Nat) : Int) < 0 then _ else _) _ _ _
  rw [if_neg (by omega)]
  show wpAny _ _ (if ((kvs.length : Nat) : Int) ≥ 2 ^ 63 then _ else _) _ _ _
  rw [if_neg (by omega)]
  exact wpAny_bind (wpAny_mkInt (wpAny_pure ⟨_, rfl, ⟨.int ((kvs.length : Nat) : Int), H, I.tok _, ⟨_, rfl⟩, q⟩⟩))
/-- isinstance -/
def rIsiU (w : World) (K : PySem.W.Frag) : List V → Hp → VK → Prop := fun xs H Q => rIsi K xs H Q ∨ ∃ (a : Addr) (kvs : MV) (c : V) (u : Value) (b : Bool), xs = [.ref a, c] ∧ MRd w H a kvs ∧ ClsV c u ∧ PySem.W.kitOne K (.type "dict") u = some b ∧ Q (.bl b) H
theorem call_isiU : CallR X (.builtin "isinstance") (rIsiU X.w X.K) := by
  intro pins s σ H xs us Q I r h
  rcases h with h | ⟨a, kvs, c, u, b, rfl, m, k, e, q⟩
  · exact call_isi pins s σ H xs us Q I r h
  · obtain ⟨u1, u2, rfl, r1, r2⟩ := vals2 r
    have e2 := k.eq r2
    subst e2
    cases (show u1 = Value.ref a from r1)
    obtain ⟨_, _, ys, _, ob, es, ep, h1, h2, _⟩ := m.ph I.hok
    exact PySem.W.kia_one PySem.W.kitx_dict I.kIn ⟨ob, h1, h2.1⟩ e (fun z => nomatch z) fun tk => ⟨.bl b, H, I.tok tk, rfl, q⟩
end
section
variable {w : World} {K : PySem.W.Frag} {H : Hp} {Q : VK} {x : V} {a : Addr} {kvs : MV}
theorem x_isiM {k T : Kn} (m : MRd w H a kvs) (q : Q (.bl (isB .dict T)) H) (hT : T ≠ .non := by decide) : rIsiU w K [.ref a, .ty T.ty] H Q := .inr ⟨a, kvs, _, _, _, rfl, m, .ty _, kit_ty (kitB_is .dict T hT), q⟩
theorem x_isiMd (m : MRd w H a kvs) (q : Q (.bl true) H) : rIsiU w K [.ref a, .ty "dict"] H Q := x_isiM (k := .non) (T := .dict) m q
theorem x_isiO (q : rIsi K [x, .ty "dict"] H Q) : rIsiU w K [x, .ty "dict"] H Q := .inl q
theorem x_lenM (m : MRd w H a kvs) (q : Q (.int ((kvs.length : Nat) : Int)) H) : rLenM w [.ref a] H Q := ⟨a, kvs, rfl, m, q⟩
end
end Ox

/-! Own layer: dicts with keys of many kinds, walked: for k in d, for k, v in d.items(). -/
namespace Ox
open PySem PySem.Spec PyProof.Rows L2
/-- a dict that is held while it is walked -/
def FzM (w : World) (H : Hp) (d : Addr) (o : Obj) (kvs : MV) : Prop := H d = some (.frz o (dM w d kvs)) ∨ ∃ ks, H d = some (.frz o (.dK ks)) ∧ kvs = ks.map toM
theorem FzM.rd {w : World} {H : Hp} {d : Addr} {o : Obj} {kvs : MV} (h : FzM w H d o kvs) : MRd w H d kvs := h.imp (fun e => .inr ⟨o, e⟩) fun ⟨ks, e, q⟩ => ⟨ks, .inr ⟨o, e⟩, q⟩
section
variable {X : Cx} {pins : List (Addr × Obj)} {σ : L2.St} {H : Hp} {s : Shared} {d : Addr} {o : Obj} {kvs : MV}
theorem frzM (I : Inv X pins σ H s) (h : FzM X.w H d o kvs) : (d == sysModules) = false ∧ s.heap.get? d = some o ∧ o.ExactDict ∧ ∃ (es : Array DictEntry) (ep : Nat), o.data = .dict es ep ∧ es.size = kvs.length ∧
    ∀ (i : Nat) (p : NestedKey × V × V), kvs[i]? = some p → ∃ en, es[i]? = some en ∧ RelV p.2.1 en.key ∧ RelV p.2.2 en.val := by
  have hd : s.heap.get? d = some o := by
    rcases h with h | ⟨ks, h, _⟩
    · exact (I.hok d _ h).1
    · exact (I.hok d _ h).1
  obtain ⟨_, hs, xs, rel, o', es, ep, ho, hx, hdt, he, _⟩ := h.rd.ph I.hok
  rw [hd] at ho
  cases ho
  refine ⟨hs, hd, hx, es, ep, hdt, by rw [Paired.length rel]; exact ent_size he, fun i p e => ?_⟩
  obtain ⟨x, hx, e1, e2, e3⟩ := paired_get rel e
  have q := ent_at he i
  rw [hx] at q
  exact ⟨_, q, e2, e3⟩
end
/-- the keys -/
def Itkm (w : World) (d : Addr) (o : Obj) (kvs : MV) : It :=
  ⟨fun i H => FzM w H d o kvs ∧ i < kvs.length, fun i H x H' => H' = H ∧ ∃ p, kvs[i]? = some p ∧ x = p.2.1, fun i H => FzM w H d o kvs ∧ kvs.length ≤ i⟩
/-- the pairs, each a new tuple -/
def Itim (w : World) (d : Addr) (o : Obj) (kvs : MV) : It :=
  ⟨fun i H => FzM w H d o kvs ∧ i < kvs.length, fun i H x H' => ∃ T p, kvs[i]? = some p ∧ x = .ref T ∧ H T = none ∧ H' = upd H T (.tup [p.2.1, p.2.2]), fun i H => FzM w H d o kvs ∧ kvs.length ≤ i⟩
section
variable {P : Program} {w : World} {K : PySem.W.Frag} {tg : Expr} {d : Addr} {o : Obj} {es : Array DictEntry} {ep : Nat}
theorem turn_keysM {kvs : MV} (it : Addr) (hod : o.data = .dict es ep) : Turn P w K tg (Itkm w d o kvs) [it] it (fun i h => h.IsKeyIter it d i kvs.length ep) where
  mem := by simp
  obj := fun i h st b hb => by
    have e : b = it := by simpa using hb
    subst e
    obtain ⟨oi, e, c, dd⟩ := st
    exact ⟨oi, e, fun v z => by rw [dd] at z; cases z⟩
  keep := fun i h h' st k => st.at fun oi e => k it (by simp) oi e
  item := by
    intro X hP hw hK hc i pins s σ H E I hf st hg
    subst hP hw hK
    obtain ⟨hd, hi⟩ := hg
    obtain ⟨f0, f1, f2, f3, f4, f5⟩ := hf it (by simp)
    obtain ⟨hs, hgd, hx, es', ep', hdt, hsz, ent⟩ := frzM I hd
    obtain ⟨rfl, rfl⟩ := dict_ep hod hdt
    obtain ⟨p, hkv⟩ : ∃ p, kvs[i]? = some p := ⟨kvs[i], List.getElem?_eq_getElem hi⟩
    obtain ⟨en, hen, hkey, _⟩ := ent i p hkv
    refine next_key_item st hgd hdt hsz hen fun h' st' sb => ?_
    have I1 : Inv X pins σ H { s with heap := h' } := I.turned (t' := s.toks) (fun b ob hb e => (sb.2 b hb).trans e) f0 f1 f3 f4 f5
    obtain ⟨oi, e, c, dd⟩ := id st'
    exact ⟨en.key, rfl, go_of (s := { s with heap := h' }) e c dd (by decide) ⟨p.2.1, H, I1, hkey, ⟨rfl, p, hkv, rfl⟩, st', fun b hb => (hf b hb).1⟩⟩
  done := by
    intro X hP hw hK hc i pins s σ H E I hf st hg
    subst hP hw hK
    obtain ⟨hd, hi⟩ := hg
    obtain ⟨f0, f1, f2, f3, f4, f5⟩ := hf it (by simp)
    obtain ⟨hs, hgd, hx, es', ep', hdt, hsz, ent⟩ := frzM I hd
    obtain ⟨rfl, rfl⟩ := dict_ep hod hdt
    exact next_key_end (I.ok.hd hc) st hgd hdt hsz hi fun h' eb => ⟨rfl, I.turned (t' := s.toks) (fun b ob hb e => eb b ob hb e) f0 f1 f3 f4 f5⟩
  self := fun A i s Q E st h => wpAny_pyIter_keyiter st h
theorem turn_itemsM {kvs : MV} {elts : List Expr} {kk : Nat} {tpos : Pos} (it : Addr) (hod : o.data = .dict es ep) :
    Turn P w K (.Tuple elts kk tpos) (Itim w d o kvs) [it] it (fun i h => ∃ ok ov, IsItemIter h it d i kvs.length ep ok ov) where
  mem := by simp
  obj := fun i h st b hb => by
    have e : b = it := by simpa using hb
    subst e
    obtain ⟨ok, ov, e⟩ := st
    exact ⟨_, e, fun v z => nomatch z⟩
  keep := fun i h h' st k => let ⟨ok, ov, e⟩ := st; ⟨ok, ov, k it (by simp) _ e⟩
  item := by
    intro X hP hw hK hc i pins s σ H E I hf st hg
    subst hP hw hK
    obtain ⟨hd, hi⟩ := hg
    obtain ⟨hs, hgd, hx, es', ep', hdt, hsz, ent⟩ := frzM I hd
    obtain ⟨rfl, rfl⟩ := dict_ep hod hdt
    obtain ⟨p, hkv⟩ : ∃ p, kvs[i]? = some p := ⟨kvs[i], List.getElem?_eq_getElem hi⟩
    obtain ⟨en, hen, hkey, hval⟩ := ent i p hkv
    obtain ⟨ok, ov, he⟩ := st
    have hi' : i < es'.size := by rw [hsz]; exact hi
    have een : es'[i] = en := by rw [Array.getElem?_eq_getElem hi'] at hen; exact Option.some.inj hen
    rw [← hsz] at he
    have hlt : it < s.heap.objs.size := Heap.lt_size he
    refine wpAny_pyNext_items_item_raw he ⟨o, hgd, hx, hdt⟩ hi' fun h' ho hT hz hk => ?_
    refine ⟨_, rfl, wpAny_letOwnedTupleGo_items (s := { s with heap := h' }) ho fun h'' he' sb => ?_⟩
    have hT2 : h''.get? s.heap.objs.size = some { cls := .type "tuple", data := .seq #[es'[i].key, es'[i].val] } := (sb.2 _ (Nat.ne_of_gt hlt)).trans hT
    have new : ObjOk X.prog X.w (upd H s.heap.objs.size (.tup [p.2.1, p.2.2])) h'' s.heap.objs.size (.tup [p.2.1, p.2.2]) :=
      ⟨by show 2 ≤ sizeLine; decide, [es'[i].key, es'[i].val], .cons (by rw [een]; exact hkey) (.cons (by rw [een]; exact hval) .nil), ⟨_, hT2, rfl, _, rfl⟩⟩
    have I1 : Inv X pins σ (upd H s.heap.objs.size (.tup [p.2.1, p.2.2])) { s with heap := h'' } :=
      I.turnedNew (t' := s.toks) (ch := [it]) (fun b ob hb e => (sb.2 b (by simpa using hb)).trans (hk b ob (by simpa using hb) e)) hf (Nat.le_refl _) new
    refine ⟨.ref s.heap.objs.size, _, I1, rfl, ⟨_, p, hkv, rfl, I.hok.fresh (Nat.le_refl _), rfl⟩, ⟨es'[i].key, es'[i].val, ?_⟩, fun b hb => ?_⟩
    · rw [← hsz]; exact he'
    · have e : b = it := by simpa using hb
      rw [e, upd_ne (Nat.ne_of_lt hlt)]
      exact (hf it (by simp)).1
  done := by
    intro X hP hw hK hc i pins s σ H E I hf st hg
    subst hP hw hK
    obtain ⟨hd, hi⟩ := hg
    obtain ⟨f0, f1, f2, f3, f4, f5⟩ := hf it (by simp)
    obtain ⟨hs, hgd, hx, es', ep', hdt, hsz, ent⟩ := frzM I hd
    obtain ⟨rfl, rfl⟩ := dict_ep hod hdt
    obtain ⟨ok, ov, he⟩ := st
    rw [← hsz] at he
    exact wpAny_pyNext_items_end_raw (I.ok.hd hc) he ⟨o, hgd, hx, hdt⟩ (by rw [hsz]; exact hi) fun h' eb => ⟨rfl, I.turned (t' := s.toks) (fun b ob hb e => eb b ob hb e) f0 f1 f3 f4 f5⟩
  self := fun A i s Q E st h => let ⟨_, _, e⟩ := st; PySem.W.kcp_self e h
end
/-! ### for k in d, for k, v in d.items() -/
def iKeysU (w : World) (td : TE) : TI := fun σ H R => td σ H fun x H1 => ∃ d o kvs, x = .ref d ∧ FzM w H1 d o kvs ∧ R (Itkm w d o kvs) H1
def iItemsU (w : World) (td : TE) : TI := fun σ H R => td σ H fun x H1 => ∃ d o kvs, x = .ref d ∧ FzM w H1 d o kvs ∧ R (Itim w d o kvs) H1
section
variable {X : Cx} {tg e : Expr} {td : TE} {apos cpos : Pos}
theorem pi_keysU (he : PE X e td) : PI X tg e (iKeysU X.w td) := by
  refine ⟨fun pins s σ H R I h => ?_⟩
  refine thn (he.run pins s σ H _ I h) fun u s1 ⟨x, H1, I1, rx, d, o, kvs, ex, hd, q⟩ => ?_
  subst ex
  obtain rfl : u = Value.ref d := rx
  obtain ⟨hs, hgd, hx, es, ep, hdt, hsz, ent⟩ := frzM I1 hd
  refine iter_keys hs hgd hx hdt (pi_one (tk := s1.toks) I1 _ (turn_keysM _ hdt) ⟨_, Heap.get?_push_size _ rfl, rfl, ?_⟩ q)
  rw [hsz] <;> rfl
theorem pi_itemsU {elts : List Expr} {kk : Nat} {tpos : Pos} (he : PE X e td) (hbase : attributeBase e "items" X.env (eval e X.env) = eval e X.env := by rfl) (hline : (apos.endLine == cpos.line) = true := by rfl) :
    PI X (.Tuple elts kk tpos) (.Call (.Attribute e "items" apos) [] [] cpos) (iItemsU X.w td) := by
  refine ⟨fun pins s σ H R I h => ?_⟩
  refine wpAny_Call_method (T := "dict") (id := "dict.items") hbase rfl hline F.plainAttrs_dict F.slot_dict_items F.type_dict_items (thn (he.run pins s σ H _ I h) fun u s1 ⟨x, H1, I1, rx, d, o, kvs, ex, hd, q⟩ => ?_)
  subst ex
  obtain rfl : u = Value.ref d := rx
  obtain ⟨hs, hgd, hx, es, ep, hdt, hsz, ent⟩ := frzM I1 hd
  have hm : s1.heap.DictRaw d es ep := ⟨o, hgd, hx, hdt⟩
  refine ⟨hm.typeIs, (fun b q => by cases q; exact ⟨o, hgd, hx.2.1⟩), ?_⟩
  have I2 : Inv X pins σ H1 { s1 with heap := s1.heap.push { cls := .type "dict_items", data := .fields #[.ref d] } } := I1.kept (t' := s1.toks) fun b ob q => Heap.get?_push_of_some _ q
  have fin : wpAny (model X.prog X.w) X.A (pyIter (.ref s1.heap.objs.size)) (PIE X pins σ (.Tuple elts kk tpos) R) X.xe { s1 with heap := s1.heap.push { cls := .type "dict_items", data := .fields #[.ref d] } } := by
    refine wpAny_pyIter_items_raw (d := d) ⟨_, Heap.get?_push_size _ rfl, rfl, rfl⟩ (hm.push _) (pi_one (tk := s1.toks) I2 _ (turn_itemsM _ hdt) ⟨.none, .none, ?_⟩ q)
    rw [hsz]
    exact Heap.get?_push_size _ rfl
  show wpAny _ _ (callWith cpos (.builtin "dict.items") [.ref d] [] []) _ X.xe s1
  exact method_meetsIn F.slot_dict_items F.entry_dict_items rfl (PySem.evalArgs_none ⟨rfl, hm.typeIs, F.args_dict_items_1 _, _, meets_dict_items_raw d hs, ⟨es, ep, hm⟩, fin⟩)
end
section
variable {w : World} {d p : Addr} {o : Obj} {kvs : MV} {g : TG} {tb : TS} {σ : L2.St} {H : Hp} {n : L2.St → Hp → Prop} {r : VK} {b c : L2.St → Hp → Prop} {te : TE} {K : PySem.W.Frag}
theorem walk_keysM : L2.Walk (Itkm w d o kvs) kvs.length (fun H => FzM w H d o kvs) (fun i H x H' => H' = H ∧ ∃ p, kvs[i]? = some p ∧ x = p.2.1) :=
  ⟨fun _ _ hi q => ⟨q, hi⟩, fun _ q => ⟨q, Nat.le_refl _⟩, fun _ _ _ _ _ _ y => y⟩
theorem walk_itemsM : L2.Walk (Itim w d o kvs) kvs.length (fun H => FzM w H d o kvs) (fun i H x H' => ∃ T p, kvs[i]? = some p ∧ x = .ref T ∧ H T = none ∧ H' = upd H T (.tup [p.2.1, p.2.2])) :=
  ⟨fun _ _ hi q => ⟨q, hi⟩, fun _ q => ⟨q, Nat.le_refl _⟩, fun _ _ _ _ _ _ y => y⟩
def LpKU (w : World) (g : TG) (tb : TS) (D : Ends) (σ : L2.St) (x : V) (H : Hp) : Prop := ∃ d o kvs, x = .ref d ∧ FzM w H d o kvs ∧ Lp (Itkm w d o kvs) g tb D σ H
def LpIU (w : World) (g : TG) (tb : TS) (D : Ends) (σ : L2.St) (x : V) (H : Hp) : Prop := ∃ d o kvs, x = .ref d ∧ FzM w H d o kvs ∧ Lp (Itim w d o kvs) g tb D σ H
theorem x_forKU (h : te σ H fun x H1 => LpKU w g tb ⟨n, r, b, c⟩ σ x H1) : tFor (iKeysU w te) g tb ⟨n, r, b, c⟩ σ H := h
theorem x_forIU (h : te σ H fun x H1 => LpIU w g tb ⟨n, r, b, c⟩ σ x H1) : tFor (iItemsU w te) g tb ⟨n, r, b, c⟩ σ H := h
theorem lpKU (Pv : Nat → L2.St → Hp → Prop) (h : FzM w H p o kvs) (h0 : Pv 0 σ H) (hG : ∀ i σ H, i ≤ kvs.length → Pv i σ H → FzM w H p o kvs)
    (hs : ∀ i q σ H, kvs[i]? = some q → Pv i σ H → g q.2.1 σ H fun σ2 H2 => tb ⟨Pv (i + 1), r, n, Pv (i + 1)⟩ σ2 H2) (hd : ∀ σ H, Pv kvs.length σ H → n σ H) : LpKU w g tb ⟨n, r, b, c⟩ σ (.ref p) H :=
  ⟨p, o, kvs, rfl, h, lp_by walk_keysM Pv h0 hG (fun i x σ H H' _ hp y => by
    obtain ⟨rfl, q, e, rfl⟩ := y
    exact hs i q σ _ e hp) hd⟩
theorem lpIU (Pv : Nat → L2.St → Hp → Prop) (h : FzM w H p o kvs) (h0 : Pv 0 σ H) (hG : ∀ i σ H, i ≤ kvs.length → Pv i σ H → FzM w H p o kvs)
    (hs : ∀ i q σ H T, kvs[i]? = some q → Pv i σ H → H T = none → g (.ref T) σ (upd H T (.tup [q.2.1, q.2.2])) fun σ2 H2 => tb ⟨Pv (i + 1), r, n, Pv (i + 1)⟩ σ2 H2) (hd : ∀ σ H, Pv kvs.length σ H → n σ H) : LpIU w g tb ⟨n, r, b, c⟩ σ (.ref p) H :=
  ⟨p, o, kvs, rfl, h, lp_by walk_itemsM Pv h0 hG (fun i x σ H H' _ hp y => by
    obtain ⟨T, q, e, rfl, hT, rfl⟩ := y
    exact hs i q σ _ T e hp hT) hd⟩
/-- a dict to be walked: what it is held as -/
theorem x_lockM {t : TS} (h : MWr w H d kvs) (q : ∀ od u, H d = some u → Mut (some u) → FzM w (upd H d (.frz od u)) d od kvs → t ⟨fun σ' H' => H' d = some (.frz od u) ∧ n σ' (upd H' d u), fun v H' => H' d = some (.frz od u) ∧ r v (upd H' d u), fun σ' H' => H' d = some (.frz od u) ∧ b σ' (upd H' d u), fun σ' H' => H' d = some (.frz od u) ∧ c σ' (upd H' d u)⟩ σ (upd H d (.frz od u))) :
    tLock t ⟨n, r, b, c⟩ σ H := by
  rcases h with h | ⟨ks, h, e⟩
  · exact x_lock h trivial fun od => q od _ h trivial (.inl upd_same)
  · exact x_lock h trivial fun od => q od _ h trivial (.inr ⟨ks, upd_same, e⟩)
theorem x_lockME {Q : VK} (h : MWr w H d kvs) (q : ∀ od u, H d = some u → Mut (some u) → FzM w (upd H d (.frz od u)) d od kvs → te σ (upd H d (.frz od u)) fun v H' => H' d = some (.frz od u) ∧ Q v (upd H' d u)) : tLockE te σ H Q := by
  rcases h with h | ⟨ks, h, e⟩
  · exact x_lockE h trivial fun od => q od _ h trivial (.inl upd_same)
  · exact x_lockE h trivial fun od => q od _ h trivial (.inr ⟨ks, upd_same, e⟩)
end
end Ox
namespace Ox
open PySem PySem.Spec PyProof.Rows L2
/-! ### a class whose __init__ may raise, called -/
section
variable (P : Program) (w : World) (K : PySem.W.Frag) (mg : Str → Option Value) (base : Heap)
structure MkcX (C : Addr) (k : Nat) (x : Str) (ps : List Str) (sp : Sp) : Prop where
  ex : ∃ f fd, Mk K C f ∧ FnOk P w K mg base (L2.CX P w) k f fd ps sp ∧ mg x = some (.ref C) ∧ Binds K fd ps []
end
def tMakeS (C : Addr) (sp : Sp) (E : L2.St → XK) (t : TA) : TE := fun σ H Q => tMake C sp [] (E σ) t σ H Q
section
variable {X : Cx} {k : Nat} {x : Str} {ps : List Str} {sp : Sp} {e : Expr} {es : List Expr} {t : TA} {pos p : Pos} {W : WX} {C : Addr}
theorem run_makeS {CX : CXT} {f : Addr} {fd : FuncData} {E : XK} {pins : List (Addr × Obj)} {σ : L2.St} {H : Hp} {s : Shared} {Q : VK} {us ds : List Value} {vs dvs : List V} (M : Mk X.K C f) (F : FnOk X.prog X.w X.K X.mg X.base CX k f fd ps sp) (hr : Room (k + 1) X.A) (hb : Binds X.K fd ps ds) (hd : Vals dvs ds)
    (hx : PassesAt CX X σ E) (I : Inv X pins σ H s) (r : Vals vs us)
    (h : ∀ x dx, H x = none → H dx = none → dx ≠ x → sp (.ref x :: (vs ++ dvs)) (upd (upd H dx (.own x)) x (.ins C dx [])) (fun v H2 => v = .non ∧ Q (.ref x) H2) E) :
    wpAny (model X.prog X.w) X.A (call (.ref C) us) (EP X pins σ Q) X.xe s := by
  have new := h (s.heap.objs.size + 1) s.heap.objs.size (I.hok.fresh (Nat.le_succ _)) (I.hok.fresh (Nat.le_refl _)) (Nat.ne_of_lt (Nat.lt_succ_self _))
  have J := Inv.made (C := C) I
  have args : Vals (V.ref (s.heap.objs.size + 1) :: (vs ++ dvs)) (Value.ref (s.heap.objs.size + 1) :: (us ++ ds)) := .cons rfl (r.append hd)
  have many : (Value.ref (s.heap.objs.size + 1) :: us ++ ds).length = ps.length := by
    have e := args.length
    rw [F.len _ _ _ _ new] at e
    exact e.symm
  refine wpAny_call (make_map (f := f) I.kIn M.makes M.init (beq_iff_eq.mp M.fn) (codeAny_mono (F.run _ X.stack _ _ ⟨Value.ref (s.heap.objs.size + 1) :: us, []⟩ (Value.ref (s.heap.objs.size + 1) :: (us ++ ds)) _ _ E (hr.make C us [])
    (J.env0.make C us []) (hb _ (Value.ref (s.heap.objs.size + 1) :: us) J.kIn many) args new) fun r s' out => ?_))
  cases r with
  | error e => exact hx pins _ _ e s' J out
  | ok fl =>
    cases fl with
    | ret u =>
      obtain ⟨v, H', J2, rv, ev, q3⟩ := J.after out
      subst ev
      exact ⟨rv, ⟨V.ref (s.heap.objs.size + 1), H', J2, rfl, q3⟩⟩
    | next => exact False.elim out
    | brk => exact False.elim out
    | cont => exact False.elim out
theorem pe_mkX (c : MkcX X.prog X.w X.K X.mg X.base C k x ps sp) (hr : Room (k + 1) X.A) (hg : Gl X x) (tk : Takes X W) (ha : PA X (e :: es) t)
    (hs : starEach (e :: es) X.env = (false, eval e X.env) :: starEach es X.env := by rfl) (hp : (backTo pos (starEach es X.env)).any (·.1) = false := by rfl)
    (hdb : (x == ("__debug__" : Str)) = false := by decide) : PE X (.Call (.Name x p) (e :: es) [] pos) (tMakeS C sp (WE W) t) := by
  obtain ⟨f, fd, M, F, g, b⟩ := c.ex
  refine ⟨fun pins s σ H Q I h => ?_⟩
  refine wpAny_Call_Name_kw (ld_glob I hg g ?_ hdb)
  refine PySem.W.callWith_K (h₀ := X.base) I.ok.mod.kin M.kp (thn (ha.run pos pins s σ H _ I h) fun us s1 ⟨vs, H1, I1, r, q⟩ => ⟨I1.kIn, ?_⟩) hs hp
  exact run_makeS M F hr b .nil (passAt tk σ) I1 r q
theorem x_mkS {σ : L2.St} {H : Hp} {Q : VK} (q : t σ H fun vs H1 => ∀ x dx, H1 x = none → H1 dx = none → dx ≠ x → sp (.ref x :: (vs ++ [])) (upd (upd H1 dx (.own x)) x (.ins C dx [])) (fun v H2 => v = .non ∧ Q (.ref x) H2) (WE W σ)) : tMakeS C sp (WE W) t σ H Q := q
end
/-- a store by either rule: the dict's own, or as one of many kinds of keys -/
def sMDPut (K : PySem.W.Frag) (w : World) (td ty tv : TE) : TS := fun D σ H => tv σ H fun v H1 => td σ H1 fun x H2 => ty σ H2 fun y H3 => (∃ a H4, x = .ref a ∧ DPut H3 a y v H4 ∧ D.nx σ H4) ∨
  ∃ a kvs k, x = .ref a ∧ MWr w H3 a kvs ∧ KeysOk K H3 kvs ∧ KeyV K H3 k y ∧ k.depth ≤ 8 ∧ kvs.length < sizeLine ∧ D.nx σ (upd H3 a (dM w a (putM kvs k y v)))
theorem ps_mdput {X : Cx} {o i value : Expr} {pos pos' : Pos} {td ty tv : TE} (hu : X.A.units + 100 < cLine) (ho : PE X o td) (hi : PE X i ty) (hv : PE X value tv) (hs : swapsWith value (some (.Subscript o i pos')) pos.line X.env = pure false) :
    PS X (.Assign [.Subscript o i pos'] value pos) (sMDPut X.K X.w td ty tv) := by
  refine ⟨fun pins s σ H D I h => ?_⟩
  refine wpAny_Assign_Subscript (thn (hv.run pins s σ H _ I h) fun r s1 ⟨v, H1, I1, rv, q1⟩ => thn (ho.run pins s1 σ H1 _ I1 q1) fun u s2 ⟨x, H2, I2, rx, q2⟩ => thn (hi.run pins s2 σ H2 _ I2 q2) fun iv s3 ⟨y, H3, I3, ry, q3⟩ => ?_) hs
  rcases q3 with ⟨a, H4, ex, g, q3⟩ | ⟨a, kvs, k, ex, e, hk, ey, kd, hl, q3⟩
  · subst ex
    obtain rfl : u = Value.ref a := rx
    exact d_setItem (by omega) I3 g ry rv fun s4 I4 => ⟨σ, _, I4, q3⟩
  · subst ex
    obtain rfl : u = Value.ref a := rx
    exact m_setItem hu I3 e hk ey kd hl ry rv fun s4 I4 => ⟨σ, _, I4, q3⟩
/-- list(d): the keys, in their order -/
def rListDM (w : World) : List V → Hp → VK → Prop := fun xs H Q => ∃ (d : Addr) (kvs : MV), xs = [.ref d] ∧ MRd w H d kvs ∧ ∀ p, H p = none → Q (.ref p) (upd H p (.lst (kvs.map (·.2.1))))
theorem call_list_dM {X : Cx} (hc : X.calm = true) : CallR X (.type "list") (rListDM X.w) := by
  intro pins s σ H xs us Q I r h
  obtain ⟨d, kvs, rfl, hd, q⟩ := h
  obtain ⟨u, rfl, rx⟩ := r.one
  cases rx
  obtain ⟨z, hs, ks, pr, o, es, ep, ho, hx, hdt, he, hn⟩ := hd.ph I.hok
  have l1 : es.size = ks.length := ent_size he
  have l2 : kvs.length = ks.length := Paired.length pr
  refine PySem.W.kdl_call (kdl_raw hs hx hdt) (I.ok.hd hc) ho (by omega) fun h' tk acc' c' kp e it => ?_
  have ea : acc'.toList = ks.map fun x => x.2.1 := by
    have hl : acc'.toList.length = ks.length := by rw [Array.length_toList, it.1]; exact l1
    apply List.ext_getElem?
    intro j
    rw [List.getElem?_map]
    cases hj : acc'.toList[j]? with
    | none =>
      have h1 := List.getElem?_eq_none_iff.mp hj
      rw [List.getElem?_eq_none (by omega)]
      all_goals rfl
    | some v =>
      obtain ⟨en, hen, hv⟩ := it.2 j v (by rw [← Array.getElem?_toList]; exact hj)
      have qe := ent_at he j
      rw [hen] at qe
      cases hk : ks[j]? with
      | none => rw [hk] at qe; cases qe
      | some x =>
        rw [hk] at qe
        have e2 : en = entM X.w x := Option.some.inj qe
        rw [hv, e2]
        all_goals rfl
  have rv : Vals (kvs.map (·.2.1)) acc'.toList := by
    rw [ea]
    clear q l2 hd it ea hn he l1 z
    induction pr with
    | nil => exact .nil
    | cons h t ih => exact .cons h.2.1 ih
  have hz : (kvs.map (·.2.1)).length ≤ sizeLine := by rw [List.length_map]; omega
  refine ⟨.ref s.heap.objs.size, _, I.laid (t' := tk) (o := .lst (kvs.map (·.2.1))) kp (Nat.le_refl _) ?_, rfl, q _ (I.hok.fresh (Nat.le_refl _))⟩
  exact ⟨hz, acc'.toList, c', rv, by rw [Array.toArray_toList]; exact e⟩
end Ox

/-! Own hook, second form: beside defs, __init__s that say super(). -/
namespace Oh
open PySem PySem.Spec PyProof.Rows L2
/-- the text of such an __init__ -/
def IsSup (st : Stmt) (y : Str) : Prop := ∃ (txt : Str) (p1 p2 q1 q2 q3 q4 q5 q6 q7 q8 q9 q10 : Pos), defArgs st = PySem.SupX.iA y p1 p2 ∧ defBody st = PySem.SupX.iB y txt q1 q2 q3 q4 q5 q6 q7 q8 q9 q10 ∧ defScope st = PySem.SupX.iS y ∧ (q3.endLine == q5.line) = true
theorem Sd.fn_ {d : Sd} {file : Str} {K : Frag} {P : Program} (s : IsSup d.st d.fld) (e : d.fnd K = d.due) (g : d.good file K = true) (hf : (P.main.file == file) = true) :
    ∃ (oc : Value) (od : Option Addr) (kV doc pm : Value) (an : Option Addr) (cda : Addr) (ct : Value) (osl : Array (Option Value)) (qual txt : Str) (cc : Addr) (p1 p2 q1 q2 q3 q4 q5 q6 q7 q8 q9 q10 : Pos),
    K.lookup (d.spot K) = some ⟨oc, od, .func (PySem.W.ksFn "__init__" qual (PySem.SupX.iA d.fld p1 p2) (PySem.SupX.iB d.fld txt q1 q2 q3 q4 q5 q6 q7 q8 q9 q10) (PySem.SupX.iS d.fld) .none kV doc pm an (.ref cda) ct cc), osl⟩ ∧ PySem.W.codeIn K (.ref cda) qual = true ∧
    (∃ (ccl : Value) (cdd : Option Addr) (vs : Array Value) (ccs : Array (Option Value)) (file : Str) (tf : Tok), K.lookup cda = some ⟨ccl, cdd, .fields vs, ccs⟩ ∧ vs[2]? = some (.str file tf) ∧ ((P.main.file : Str) == file) = true) ∧
    (∃ (cl : Value) (cld : Option Addr) (csl : Array (Option Value)), K.lookup cc = some ⟨cl, cld, .cell (some (.ref (He.ga K d.cls))), csl⟩) ∧ (q3.endLine == q5.line) = true := by
  obtain ⟨txt, p1, p2, q1, q2, q3, q4, q5, q6, q7, q8, q9, q10, e1, e2, e3, hl⟩ := s
  unfold Sd.fnd at e
  unfold Sd.good at g
  cases q : K.lookup (d.spot K) with
  | none => rw [q] at g; cases g
  | some o =>
    obtain ⟨oc, od, dt, osl⟩ := o
    rw [q] at e g
    cases dt with
    | func fd =>
      obtain ⟨n1, n2, n3, n4, n5, n6, n7, n8, n9, n10, n11, n12, n13, n14, n15⟩ := fd
      have e4 : (some (n1, n2, n3, n4, n5, n6, [], n15) : He.FnW) = (some ("__init__", d.qual, defArgs d.st, .stmts (defBody d.st), defScope d.st, mainGlobals, [], builtinsNs) : He.FnW) := e
      have g2 : (cellB K (He.ga K d.cls) n7 && (fileB K file n13 && (PySem.W.codeIn K n13 d.qual && isNon n8))) = true := g
      obtain ⟨g3, g4⟩ := Bool.and_eq_true_iff.mp g2
      obtain ⟨g5, g6⟩ := Bool.and_eq_true_iff.mp g4
      obtain ⟨g7, g8⟩ := Bool.and_eq_true_iff.mp g6
      have e8 : n8 = .none := by
        cases n8 with
        | none => rfl
        | _ => cases g8
      rw [e1, e2, e3] at e4
      simp only [Option.some.injEq, Prod.mk.injEq] at e4
      obtain ⟨h1, h2, h3, h4, h5, h6, _, h8⟩ := e4
      obtain ⟨cc, ec, cl, cld, csl, hcc⟩ : ∃ cc, n7 = [(("__class__" : Str), cc)] ∧ ∃ (cl : Value) (cld : Option Addr) (csl : Array (Option Value)), K.lookup cc = some ⟨cl, cld, .cell (some (.ref (He.ga K d.cls))), csl⟩ := by
        unfold cellB at g3
        split at g3
        · rename_i n cc
          obtain ⟨a, b⟩ := Bool.and_eq_true_iff.mp g3
          refine ⟨cc, by rw [of_decide_eq_true a], ?_⟩
          split at b
          · rename_i o ho
            obtain ⟨o1, o2, o3, o4⟩ := o
            split at b
            · rename_i D hD
              have hD' : o3 = .cell (some (.ref D)) := hD
              have := of_decide_eq_true b
              subst this
              subst hD'
              exact ⟨_, _, _, ho⟩
            · cases b
          · cases b
        · cases g3
      obtain ⟨cda, ecda, ccl, cdd, vs, ccs, f, tf, hcda, hvs, hff⟩ : ∃ cda, n13 = .ref cda ∧ ∃ (ccl : Value) (cdd : Option Addr) (vs : Array Value) (ccs : Array (Option Value)) (f : Str) (tf : Tok), K.lookup cda = some ⟨ccl, cdd, .fields vs, ccs⟩ ∧ vs[2]? = some (.str f tf) ∧ f = file := by
        unfold fileB at g5
        split at g5
        · rename_i cda
          split at g5
          · rename_i o ho
            obtain ⟨o1, o2, o3, o4⟩ := o
            split at g5
            · rename_i vs hv
              have hv' : o3 = .fields vs := hv
              subst hv'
              split at g5
              · rename_i f tf hx
                exact ⟨cda, rfl, _, _, _, _, f, tf, ho, hx, of_decide_eq_true g5⟩
              · cases g5
            · cases g5
          · cases g5
        · cases g5
      subst h1 h2 h3 h4 h5 h6 h8 e8 ec ecda hff
      exact ⟨oc, od, n9, n10, n11, n12, cda, n14, osl, d.qual, txt, cc, p1, p2, q1, q2, q3, q4, q5, q6, q7, q8, q9, q10, rfl, g7, ⟨ccl, cdd, vs, ccs, f, tf, hcda, hvs, hf⟩, ⟨cl, cld, csl, hcc⟩, hl⟩
    | _ => cases g
theorem oexB_ok {K : Frag} {C : Addr} (q : oexB K C = true) : ∃ nm q N bs bm sn sub ab col dd k0 k1 k2 k3 k5, K.lookup C = some (excClassObj nm q C N bs bm true sn sub ab col dd k0 k1 k2 k3 k5 "ValueError.__new__") ∧ PySem.HandSPX.refsVE bm = true := by
  unfold oexB at q
  split at q
  · rename_i dd cd sl ho
    split at q
    · rename_i C' bm k0 k1 k2 k3 n k5 hm hs
      simp only [Bool.and_eq_true, beq_iff_eq, Bool.not_eq_true'] at q
      obtain ⟨⟨⟨⟨rfl, rfl⟩, hdel⟩, hdi⟩, ht⟩ := q
      obtain ⟨nm, bs, mro, ns, qn, hd, sn, sub, ab, col, del⟩ := cd
      dsimp only at hm hdel hdi
      subst hm hdel hdi
      have hsl : sl = #[k0, k1, k2, k3, some (.builtin "ValueError.__new__"), k5] := by
        obtain ⟨l⟩ := sl
        simp only at hs
        rw [hs]
      subst hsl
      exact ⟨nm, qn, ns, bs, bm, sn, sub, ab, col, dd, k0, k1, k2, k3, k5, ho, ht⟩
    · cases q
  · cases q
/-- what a law's head gives -/
theorem supB_ok {x y : Str} {K : Frag} {mg : Str → Option Value} {P : Program} {file : Str} {d : Sd} (hb : supB x y K = true) (gC : mg x = some (.ref (He.ga K x))) (noS : mg "super" = none) (top : (P.main.scope.names.lookup ("super" : Str)).isSome = false) (hf : (P.main.file == file) = true)
    (f : PySem.SupX.Fld y) (ec : d.cls = x) (ey : d.fld = y) (s : IsSup d.st d.fld) (e : d.fnd K = d.due) (g : d.good file K = true) : Ox.ExcF P K mg x y (He.ga K x) := by
  subst ec ey
  obtain ⟨h1, h⟩ := Bool.and_eq_true_iff.mp hb
  obtain ⟨h2, h⟩ := Bool.and_eq_true_iff.mp h
  obtain ⟨h3, h⟩ := Bool.and_eq_true_iff.mp h
  obtain ⟨h4, h⟩ := Bool.and_eq_true_iff.mp h
  obtain ⟨h5, h⟩ := Bool.and_eq_true_iff.mp h
  obtain ⟨h6, h⟩ := Bool.and_eq_true_iff.mp h
  obtain ⟨h7, h⟩ := Bool.and_eq_true_iff.mp h
  obtain ⟨h8, h⟩ := Bool.and_eq_true_iff.mp h
  obtain ⟨h9, h⟩ := Bool.and_eq_true_iff.mp h
  obtain ⟨h10, h⟩ := Bool.and_eq_true_iff.mp h
  obtain ⟨h11, h⟩ := Bool.and_eq_true_iff.mp h
  obtain ⟨h12, h⟩ := Bool.and_eq_true_iff.mp h
  obtain ⟨h13, h⟩ := Bool.and_eq_true_iff.mp h
  obtain ⟨h14, h15⟩ := Bool.and_eq_true_iff.mp h
  exact ⟨_, f, gC, noS, oexB_ok h1, He.eqO_ok h2, He.eqO_ok h3, He.eqO_ok h4, He.eqO_ok h5, He.eqO_ok h6, of_decide_eq_true h7, h8, of_decide_eq_true h9, of_decide_eq_true h10, of_decide_eq_true h11, of_decide_eq_true h12, h13, He.eqO_ok h14, He.eqO_ok h15, top, Sd.fn_ s e g hf⟩
theorem supB_g {x y : Str} {K : Frag} (hb : supB x y K = true) : Ox.ExcG K (He.ga K x) y := by
  obtain ⟨h1, h⟩ := Bool.and_eq_true_iff.mp hb
  obtain ⟨h2, h⟩ := Bool.and_eq_true_iff.mp h
  obtain ⟨h3, h⟩ := Bool.and_eq_true_iff.mp h
  obtain ⟨h4, h⟩ := Bool.and_eq_true_iff.mp h
  obtain ⟨h5, h⟩ := Bool.and_eq_true_iff.mp h
  obtain ⟨h6, h⟩ := Bool.and_eq_true_iff.mp h
  obtain ⟨h7, h⟩ := Bool.and_eq_true_iff.mp h
  obtain ⟨h8, h⟩ := Bool.and_eq_true_iff.mp h
  obtain ⟨h9, h⟩ := Bool.and_eq_true_iff.mp h
  obtain ⟨h10, h⟩ := Bool.and_eq_true_iff.mp h
  obtain ⟨h11, h⟩ := Bool.and_eq_true_iff.mp h
  obtain ⟨h12, h⟩ := Bool.and_eq_true_iff.mp h
  obtain ⟨h13, h⟩ := Bool.and_eq_true_iff.mp h
  exact ⟨He.eqO_ok h3, He.eqO_ok h4, of_decide_eq_true h9, h13, He.eqO_ok h5⟩
/-! the hook -/
section
variable {file : Str} {fa : List (Frag → Bool)} {ds : List Dd} {ss : List Sd} {K : Frag}
theorem Told2.told (c : Told2 file fa ds ss K) : Told fa ds K := by
  have c1 := congrArg (fun z : Ob => z.1) c
  have c2 := congrArg (fun z : Ob => z.2) c
  have a1 : ((fa.all fun f => f K) && (ds.all (fun d => d.good K) && ss.all fun d => d.good file K)) = true := c1
  obtain ⟨b1, b2⟩ := Bool.and_eq_true_iff.mp a1
  obtain ⟨b3, b4⟩ := Bool.and_eq_true_iff.mp b2
  have a2 : ds.map (fun d => d.fnd K) ++ ss.map (fun d => d.fnd K) = ds.map Dd.due ++ ss.map Sd.due := c2
  have a3 := (List.append_inj a2 (by simp)).1
  show ((fa.all fun f => f K) && ds.all fun d => d.good K, ds.map fun d => d.fnd K) = (true, ds.map Dd.due)
  rw [b1, b3, a3]
  rfl
theorem Told2.sup (c : Told2 file fa ds ss K) (i : Nat) {d : Sd} (h : ss[i]? = some d) : d.fnd K = d.due ∧ d.good file K = true := by
  have c1 := congrArg (fun z : Ob => z.1) c
  have c2 := congrArg (fun z : Ob => z.2) c
  have a1 : ((fa.all fun f => f K) && (ds.all (fun d => d.good K) && ss.all fun d => d.good file K)) = true := c1
  obtain ⟨b1, b2⟩ := Bool.and_eq_true_iff.mp a1
  obtain ⟨b3, b4⟩ := Bool.and_eq_true_iff.mp b2
  have a2 : ds.map (fun d => d.fnd K) ++ ss.map (fun d => d.fnd K) = ds.map Dd.due ++ ss.map Sd.due := c2
  have a3 := (List.append_inj a2 (by simp)).2
  have e2 : (ss.map fun d => d.fnd K)[i]? = (ss.map Sd.due)[i]? := by rw [a3]
  rw [List.getElem?_map, List.getElem?_map, h] at e2
  exact ⟨Option.some.inj e2, List.all_eq_true.mp b4 d (List.mem_of_getElem? h)⟩
end
end Oh

namespace Law
open PySem PySem.Spec PyProof.Rows L2 Ox
abbrev N_is_integer : List Str := ["thing"]
theorem sc_is_integer : FnScope N_is_integer ["thing"] (defScope s_is_integer) := ⟨rfl, rfl, rfl, by decide +kernel, rfl, by decide +kernel, by decide +kernel⟩
theorem bd_is_integer {K : PySem.W.Frag} {f : Addr} {fd : FuncData} (F : Fun K "is_integer" "is_integer" s_is_integer f fd) : Binds K fd ["thing"] [] := F.binds fun _ _ _ _ _ _ us hl => match us, hl with | [_], _ => rfl
abbrev N_is_name : List Str := ["thing", "char"]
theorem sc_is_name : FnScope N_is_name ["thing"] (defScope s_is_name) := ⟨rfl, rfl, rfl, by decide +kernel, rfl, by decide +kernel, by decide +kernel⟩
theorem bd_is_name {K : PySem.W.Frag} {f : Addr} {fd : FuncData} (F : Fun K "is_name" "is_name" s_is_name f fd) : Binds K fd ["thing"] [] := F.binds fun _ _ _ _ _ _ us hl => match us, hl with | [_], _ => rfl
abbrev N_is_row : List Str := ["thing"]
theorem sc_is_row : FnScope N_is_row ["thing"] (defScope s_is_row) := ⟨rfl, rfl, rfl, by decide +kernel, rfl, by decide +kernel, by decide +kernel⟩
theorem bd_is_row {K : PySem.W.Frag} {f : Addr} {fd : FuncData} (F : Fun K "is_row" "is_row" s_is_row f fd) : Binds K fd ["thing"] [] := F.binds fun _ _ _ _ _ _ us hl => match us, hl with | [_], _ => rfl
abbrev N_is_pair : List Str := ["thing"]
theorem sc_is_pair : FnScope N_is_pair ["thing"] (defScope s_is_pair) := ⟨rfl, rfl, rfl, by decide +kernel, rfl, by decide +kernel, by decide +kernel⟩
theorem bd_is_pair {K : PySem.W.Frag} {f : Addr} {fd : FuncData} (F : Fun K "is_pair" "is_pair" s_is_pair f fd) : Binds K fd ["thing"] [] := F.binds fun _ _ _ _ _ _ us hl => match us, hl with | [_], _ => rfl
abbrev N_passed : List Str := ["work", "run", "at", "found", "index", "step"]
theorem sc_passed : FnScope N_passed ["work", "run"] (defScope s_passed) := ⟨rfl, rfl, rfl, by decide +kernel, rfl, by decide +kernel, by decide +kernel⟩
theorem bd_passed {K : PySem.W.Frag} {f : Addr} {fd : FuncData} (F : Fun K "passed" "passed" s_passed f fd) : Binds K fd ["work", "run"] [] := F.binds fun _ _ _ _ _ _ us hl => match us, hl with | [_, _], _ => rfl
abbrev N_movers : List Str := ["work", "run", "stands", "stand"]
theorem sc_movers : FnScope N_movers ["work", "run"] (defScope s_movers) := ⟨rfl, rfl, rfl, by decide +kernel, rfl, by decide +kernel, by decide +kernel⟩
theorem bd_movers {K : PySem.W.Frag} {f : Addr} {fd : FuncData} (F : Fun K "movers" "movers" s_movers f fd) : Binds K fd ["work", "run"] [] := F.binds fun _ _ _ _ _ _ us hl => match us, hl with | [_, _], _ => rfl
abbrev N_is_entry : List Str := ["steps", "row", "at", "move"]
theorem sc_is_entry : FnScope N_is_entry ["steps", "row"] (defScope s_is_entry) := ⟨rfl, rfl, rfl, by decide +kernel, rfl, by decide +kernel, by decide +kernel⟩
theorem bd_is_entry {K : PySem.W.Frag} {f : Addr} {fd : FuncData} (F : Fun K "is_entry" "is_entry" s_is_entry f fd) : Binds K fd ["steps", "row"] [] := F.binds fun _ _ _ _ _ _ us hl => match us, hl with | [_, _], _ => rfl
abbrev N_is_book : List Str := ["work", "thing", "stand"]
theorem sc_is_book : FnScope N_is_book ["work", "thing"] (defScope s_is_book) := ⟨rfl, rfl, rfl, by decide +kernel, rfl, by decide +kernel, by decide +kernel⟩
theorem bd_is_book {K : PySem.W.Frag} {f : Addr} {fd : FuncData} (F : Fun K "is_book" "is_book" s_is_book f fd) : Binds K fd ["work", "thing"] [] := F.binds fun _ _ _ _ _ _ us hl => match us, hl with | [_, _], _ => rfl
abbrev N_let_steps : List Str := ["work", "book", "stand"]
theorem sc_let_steps : FnScope N_let_steps ["work", "book", "stand"] (defScope s_let_steps) := ⟨rfl, rfl, rfl, by decide +kernel, rfl, by decide +kernel, by decide +kernel⟩
theorem bd_let_steps {K : PySem.W.Frag} {f : Addr} {fd : FuncData} (F : Fun K "let_steps" "let_steps" s_let_steps f fd) : Binds K fd ["work", "book", "stand"] [] := F.binds fun _ _ _ _ _ _ us hl => match us, hl with | [_, _, _], _ => rfl
abbrev N_first_breach : List Str := ["work", "book", "run", "stands", "hands", "at", "step"]
theorem sc_first_breach : FnScope N_first_breach ["work", "book", "run"] (defScope s_first_breach) := ⟨rfl, rfl, rfl, by decide +kernel, rfl, by decide +kernel, by decide +kernel⟩
theorem bd_first_breach {K : PySem.W.Frag} {f : Addr} {fd : FuncData} (F : Fun K "first_breach" "first_breach" s_first_breach f fd) : Binds K fd ["work", "book", "run"] [] := F.binds fun _ _ _ _ _ _ us hl => match us, hl with | [_, _, _], _ => rfl
abbrev N_is_moves : List Str := ["thing", "names", "move", "to"]
theorem sc_is_moves : FnScope N_is_moves ["thing", "names"] (defScope s_is_moves) := ⟨rfl, rfl, rfl, by decide +kernel, rfl, by decide +kernel, by decide +kernel⟩
theorem bd_is_moves {K : PySem.W.Frag} {f : Addr} {fd : FuncData} (F : Fun K "is_moves" "is_moves" s_is_moves f fd) : Binds K fd ["thing", "names"] [] := F.binds fun _ _ _ _ _ _ us hl => match us, hl with | [_, _], _ => rfl
abbrev N_is_draws : List Str := ["thing", "names", "draw", "pair"]
theorem sc_is_draws : FnScope N_is_draws ["thing", "names"] (defScope s_is_draws) := ⟨rfl, rfl, rfl, by decide +kernel, rfl, by decide +kernel, by decide +kernel⟩
theorem bd_is_draws {K : PySem.W.Frag} {f : Addr} {fd : FuncData} (F : Fun K "is_draws" "is_draws" s_is_draws f fd) : Binds K fd ["thing", "names"] [] := F.binds fun _ _ _ _ _ _ us hl => match us, hl with | [_, _], _ => rfl
abbrev N_is_stand : List Str := ["thing", "hands", "names"]
theorem sc_is_stand : FnScope N_is_stand ["thing", "hands", "names"] (defScope s_is_stand) := ⟨rfl, rfl, rfl, by decide +kernel, rfl, by decide +kernel, by decide +kernel⟩
theorem bd_is_stand {K : PySem.W.Frag} {f : Addr} {fd : FuncData} (F : Fun K "is_stand" "is_stand" s_is_stand f fd) : Binds K fd ["thing", "hands", "names"] [] := F.binds fun _ _ _ _ _ _ us hl => match us, hl with | [_, _, _], _ => rfl
abbrev N_are_stands : List Str := ["thing", "hands", "name", "stand"]
theorem sc_are_stands : FnScope N_are_stands ["thing", "hands"] (defScope s_are_stands) := ⟨rfl, rfl, rfl, by decide +kernel, rfl, by decide +kernel, by decide +kernel⟩
theorem bd_are_stands {K : PySem.W.Frag} {f : Addr} {fd : FuncData} (F : Fun K "are_stands" "are_stands" s_are_stands f fd) : Binds K fd ["thing", "hands"] [] := F.binds fun _ _ _ _ _ _ us hl => match us, hl with | [_, _], _ => rfl
abbrev N_copied : List Str := ["stand", "steps", "ordered", "step"]
theorem sc_copied : FnScope N_copied ["stand"] (defScope s_copied) := ⟨rfl, rfl, rfl, by decide +kernel, rfl, by decide +kernel, by decide +kernel⟩
theorem bd_copied {K : PySem.W.Frag} {f : Addr} {fd : FuncData} (F : Fun K "copied" "copied" s_copied f fd) : Binds K fd ["stand"] [] := F.binds fun _ _ _ _ _ _ us hl => match us, hl with | [_], _ => rfl
abbrev N_leads : List Str := ["work", "stand", "row", "step"]
theorem sc_leads : FnScope N_leads ["work", "stand"] (defScope s_leads) := ⟨rfl, rfl, rfl, by decide +kernel, rfl, by decide +kernel, by decide +kernel⟩
theorem bd_leads {K : PySem.W.Frag} {f : Addr} {fd : FuncData} (F : Fun K "leads" "leads" s_leads f fd) : Binds K fd ["work", "stand"] [] := F.binds fun _ _ _ _ _ _ us hl => match us, hl with | [_, _], _ => rfl
abbrev N_is_ringless : List Str := ["work", "left", "settled", "going", "rest", "name", "to"]
theorem sc_is_ringless : FnScope N_is_ringless ["work"] (defScope s_is_ringless) := ⟨rfl, rfl, rfl, by decide +kernel, rfl, by decide +kernel, by decide +kernel⟩
theorem bd_is_ringless {K : PySem.W.Frag} {f : Addr} {fd : FuncData} (F : Fun K "is_ringless" "is_ringless" s_is_ringless f fd) : Binds K fd ["work"] [] := F.binds fun _ _ _ _ _ _ us hl => match us, hl with | [_], _ => rfl
abbrev N_Work_init : List Str := ["self", "hands", "start", "stands", "name"]
theorem sc_Work_init : FnScope N_Work_init ["self", "hands", "start", "stands"] (defScope s_Work_init) := ⟨rfl, rfl, rfl, by decide +kernel, rfl, by decide +kernel, by decide +kernel⟩
theorem bd_Work_init {K : PySem.W.Frag} {f : Addr} {fd : FuncData} (F : Fun K "__init__" "Work.__init__" s_Work_init f fd) : Binds K fd ["self", "hands", "start", "stands"] [] := F.binds fun _ _ _ _ _ _ us hl => match us, hl with | [_, _, _, _], _ => rfl
abbrev N_Work_stands : List Str := ["self", "name"]
theorem sc_Work_stands : FnScope N_Work_stands ["self"] (defScope s_Work_stands) := ⟨rfl, rfl, rfl, by decide +kernel, rfl, by decide +kernel, by decide +kernel⟩
theorem bd_Work_stands {K : PySem.W.Frag} {f : Addr} {fd : FuncData} (F : Fun K "stands" "Work.stands" s_Work_stands f fd) : Binds K fd ["self"] [] := F.binds fun _ _ _ _ _ _ us hl => match us, hl with | [_], _ => rfl
abbrev N_Work_eq : List Str := ["self", "other"]
theorem sc_Work_eq : FnScope N_Work_eq ["self", "other"] (defScope s_Work_eq) := ⟨rfl, rfl, rfl, by decide +kernel, rfl, by decide +kernel, by decide +kernel⟩
theorem bd_Work_eq {K : PySem.W.Frag} {f : Addr} {fd : FuncData} (F : Fun K "__eq__" "Work.__eq__" s_Work_eq f fd) : Binds K fd ["self", "other"] [] := F.binds fun _ _ _ _ _ _ us hl => match us, hl with | [_, _], _ => rfl
abbrev N_Work_row : List Str := ["self", "stand"]
theorem sc_Work_row : FnScope N_Work_row ["self", "stand"] (defScope s_Work_row) := ⟨rfl, rfl, rfl, by decide +kernel, rfl, by decide +kernel, by decide +kernel⟩
theorem bd_Work_row {K : PySem.W.Frag} {f : Addr} {fd : FuncData} (F : Fun K "row" "Work.row" s_Work_row f fd) : Binds K fd ["self", "stand"] [] := F.binds fun _ _ _ _ _ _ us hl => match us, hl with | [_, _], _ => rfl
abbrev N_Work_kind : List Str := ["self", "stand"]
theorem sc_Work_kind : FnScope N_Work_kind ["self", "stand"] (defScope s_Work_kind) := ⟨rfl, rfl, rfl, by decide +kernel, rfl, by decide +kernel, by decide +kernel⟩
theorem bd_Work_kind {K : PySem.W.Frag} {f : Addr} {fd : FuncData} (F : Fun K "kind" "Work.kind" s_Work_kind f fd) : Binds K fd ["self", "stand"] [] := F.binds fun _ _ _ _ _ _ us hl => match us, hl with | [_, _], _ => rfl
abbrev N_Work_mover : List Str := ["self", "stand", "row"]
theorem sc_Work_mover : FnScope N_Work_mover ["self", "stand"] (defScope s_Work_mover) := ⟨rfl, rfl, rfl, by decide +kernel, rfl, by decide +kernel, by decide +kernel⟩
theorem bd_Work_mover {K : PySem.W.Frag} {f : Addr} {fd : FuncData} (F : Fun K "mover" "Work.mover" s_Work_mover f fd) : Binds K fd ["self", "stand"] [] := F.binds fun _ _ _ _ _ _ us hl => match us, hl with | [_, _], _ => rfl
abbrev N_Work_steps : List Str := ["self", "stand", "row"]
theorem sc_Work_steps : FnScope N_Work_steps ["self", "stand"] (defScope s_Work_steps) := ⟨rfl, rfl, rfl, by decide +kernel, rfl, by decide +kernel, by decide +kernel⟩
theorem bd_Work_steps {K : PySem.W.Frag} {f : Addr} {fd : FuncData} (F : Fun K "steps" "Work.steps" s_Work_steps f fd) : Binds K fd ["self", "stand"] [] := F.binds fun _ _ _ _ _ _ us hl => match us, hl with | [_, _], _ => rfl
abbrev N_Work_to : List Str := ["self", "stand", "step", "row"]
theorem sc_Work_to : FnScope N_Work_to ["self", "stand", "step"] (defScope s_Work_to) := ⟨rfl, rfl, rfl, by decide +kernel, rfl, by decide +kernel, by decide +kernel⟩
theorem bd_Work_to {K : PySem.W.Frag} {f : Addr} {fd : FuncData} (F : Fun K "to" "Work.to" s_Work_to f fd) : Binds K fd ["self", "stand", "step"] [] := F.binds fun _ _ _ _ _ _ us hl => match us, hl with | [_, _, _], _ => rfl
abbrev N_Work_weight : List Str := ["self", "stand", "step", "row"]
theorem sc_Work_weight : FnScope N_Work_weight ["self", "stand", "step"] (defScope s_Work_weight) := ⟨rfl, rfl, rfl, by decide +kernel, rfl, by decide +kernel, by decide +kernel⟩
theorem bd_Work_weight {K : PySem.W.Frag} {f : Addr} {fd : FuncData} (F : Fun K "weight" "Work.weight" s_Work_weight f fd) : Binds K fd ["self", "stand", "step"] [] := F.binds fun _ _ _ _ _ _ us hl => match us, hl with | [_, _, _], _ => rfl
abbrev N_l_open : List Str := ["_law_script", "_law_k", "_law_cell"]
theorem sc_l_open : FnScope N_l_open ["_law_script", "_law_k"] (defScope s_l_open) := ⟨rfl, rfl, rfl, by decide +kernel, rfl, by decide +kernel, by decide +kernel⟩
theorem bd_l_open {K : PySem.W.Frag} {f : Addr} {fd : FuncData} (F : Fun K "_law_open" "_law_open" s_l_open f fd) : Binds K fd ["_law_script", "_law_k"] [] := F.binds fun _ _ _ _ _ _ us hl => match us, hl with | [_, _], _ => rfl
abbrev N_draw : List Str := ["_law_drawer", "_law_many", "_law_number"]
theorem sc_draw : FnScope N_draw ["_law_drawer", "_law_many"] (defScope s_draw) := ⟨rfl, rfl, rfl, by decide +kernel, rfl, by decide +kernel, by decide +kernel⟩
theorem bd_draw {K : PySem.W.Frag} {f : Addr} {fd : FuncData} (F : Fun K "_law_draw" "_law_draw" s_draw f fd) : Binds K fd ["_law_drawer", "_law_many"] [] := F.binds fun _ _ _ _ _ _ us hl => match us, hl with | [_, _], _ => rfl
abbrev N_l_names : List Str := ["_law_drawer", "_law_many", "_law_names_here", "_law_k", "_law_letter"]
theorem sc_l_names : FnScope N_l_names ["_law_drawer", "_law_many"] (defScope s_l_names) := ⟨rfl, rfl, rfl, by decide +kernel, rfl, by decide +kernel, by decide +kernel⟩
theorem bd_l_names {K : PySem.W.Frag} {f : Addr} {fd : FuncData} (F : Fun K "_law_names" "_law_names" s_l_names f fd) : Binds K fd ["_law_drawer", "_law_many"] [] := F.binds fun _ _ _ _ _ _ us hl => match us, hl with | [_, _], _ => rfl
abbrev N_l_target : List Str := ["_law_drawer", "_law_names_here", "_law_k", "_law_rings"]
theorem sc_l_target : FnScope N_l_target ["_law_drawer", "_law_names_here", "_law_k", "_law_rings"] (defScope s_l_target) := ⟨rfl, rfl, rfl, by decide +kernel, rfl, by decide +kernel, by decide +kernel⟩
theorem bd_l_target {K : PySem.W.Frag} {f : Addr} {fd : FuncData} (F : Fun K "_law_target" "_law_target" s_l_target f fd) : Binds K fd ["_law_drawer", "_law_names_here", "_law_k", "_law_rings"] [] := F.binds fun _ _ _ _ _ _ us hl => match us, hl with | [_, _, _, _], _ => rfl
abbrev N_l_menu : List Str := ["_law_drawer", "_law_letter", "_law_menus"]
theorem sc_l_menu : FnScope N_l_menu ["_law_drawer"] (defScope s_l_menu) := ⟨rfl, rfl, rfl, by decide +kernel, rfl, by decide +kernel, by decide +kernel⟩
theorem bd_l_menu {K : PySem.W.Frag} {f : Addr} {fd : FuncData} (F : Fun K "_law_menu" "_law_menu" s_l_menu f fd) : Binds K fd ["_law_drawer"] [] := F.binds fun _ _ _ _ _ _ us hl => match us, hl with | [_], _ => rfl
abbrev N_l_stand : List Str := ["_law_drawer", "_law_names_here", "_law_k", "_law_hands", "_law_menu_here", "_law_rings", "_law_sort", "_law_count", "_law_shift", "_law_steps_here", "_law_hand", "_law_j", "_law_weight"]
theorem sc_l_stand : FnScope N_l_stand ["_law_drawer", "_law_names_here", "_law_k", "_law_hands", "_law_menu_here", "_law_rings"] (defScope s_l_stand) := ⟨rfl, rfl, rfl, by decide +kernel, rfl, by decide +kernel, by decide +kernel⟩
theorem bd_l_stand {K : PySem.W.Frag} {f : Addr} {fd : FuncData} (F : Fun K "_law_stand" "_law_stand" s_l_stand f fd) : Binds K fd ["_law_drawer", "_law_names_here", "_law_k", "_law_hands", "_law_menu_here", "_law_rings"] [] := F.binds fun _ _ _ _ _ _ us hl => match us, hl with | [_, _, _, _, _, _], _ => rfl
abbrev N_l_stands : List Str := ["_law_drawer", "_law_names_here", "_law_hands", "_law_rings", "_law_menu_here", "_law_stands_here", "_law_k"]
theorem sc_l_stands : FnScope N_l_stands ["_law_drawer", "_law_names_here", "_law_hands", "_law_rings"] (defScope s_l_stands) := ⟨rfl, rfl, rfl, by decide +kernel, rfl, by decide +kernel, by decide +kernel⟩
theorem bd_l_stands {K : PySem.W.Frag} {f : Addr} {fd : FuncData} (F : Fun K "_law_stands" "_law_stands" s_l_stands f fd) : Binds K fd ["_law_drawer", "_law_names_here", "_law_hands", "_law_rings"] [] := F.binds fun _ _ _ _ _ _ us hl => match us, hl with | [_, _, _, _], _ => rfl
abbrev N_l_build : List Str := ["_law_script", "_law_drawer", "_law_hands", "_law_many", "_law_rings", "_law_names_here"]
theorem sc_l_build : FnScope N_l_build ["_law_script"] (defScope s_l_build) := ⟨rfl, rfl, rfl, by decide +kernel, rfl, by decide +kernel, by decide +kernel⟩
theorem bd_l_build {K : PySem.W.Frag} {f : Addr} {fd : FuncData} (F : Fun K "_law_build" "_law_build" s_l_build f fd) : Binds K fd ["_law_script"] [] := F.binds fun _ _ _ _ _ _ us hl => match us, hl with | [_], _ => rfl
abbrev N_l_steps : List Str := ["_law_stands_here", "_law_stand_here", "_law_row"]
theorem sc_l_steps : FnScope N_l_steps ["_law_stands_here", "_law_stand_here"] (defScope s_l_steps) := ⟨rfl, rfl, rfl, by decide +kernel, rfl, by decide +kernel, by decide +kernel⟩
theorem bd_l_steps {K : PySem.W.Frag} {f : Addr} {fd : FuncData} (F : Fun K "_law_steps" "_law_steps" s_l_steps f fd) : Binds K fd ["_law_stands_here", "_law_stand_here"] [] := F.binds fun _ _ _ _ _ _ us hl => match us, hl with | [_, _], _ => rfl
abbrev N_l_to : List Str := ["_law_stands_here", "_law_stand_here", "_law_step", "_law_row"]
theorem sc_l_to : FnScope N_l_to ["_law_stands_here", "_law_stand_here", "_law_step"] (defScope s_l_to) := ⟨rfl, rfl, rfl, by decide +kernel, rfl, by decide +kernel, by decide +kernel⟩
theorem bd_l_to {K : PySem.W.Frag} {f : Addr} {fd : FuncData} (F : Fun K "_law_to" "_law_to" s_l_to f fd) : Binds K fd ["_law_stands_here", "_law_stand_here", "_law_step"] [] := F.binds fun _ _ _ _ _ _ us hl => match us, hl with | [_, _, _], _ => rfl
abbrev N_l_mover : List Str := ["_law_stands_here", "_law_stand_here"]
theorem sc_l_mover : FnScope N_l_mover ["_law_stands_here", "_law_stand_here"] (defScope s_l_mover) := ⟨rfl, rfl, rfl, by decide +kernel, rfl, by decide +kernel, by decide +kernel⟩
theorem bd_l_mover {K : PySem.W.Frag} {f : Addr} {fd : FuncData} (F : Fun K "_law_mover" "_law_mover" s_l_mover f fd) : Binds K fd ["_law_stands_here", "_law_stand_here"] [] := F.binds fun _ _ _ _ _ _ us hl => match us, hl with | [_, _], _ => rfl
abbrev N_l_book : List Str := ["_law_drawer", "_law_stands_here", "_law_book_here", "_law_stand_here", "_law_steps_here", "_law_bits", "_law_row", "_law_at"]
theorem sc_l_book : FnScope N_l_book ["_law_drawer", "_law_stands_here"] (defScope s_l_book) := ⟨rfl, rfl, rfl, by decide +kernel, rfl, by decide +kernel, by decide +kernel⟩
theorem bd_l_book {K : PySem.W.Frag} {f : Addr} {fd : FuncData} (F : Fun K "_law_book" "_law_book" s_l_book f fd) : Binds K fd ["_law_drawer", "_law_stands_here"] [] := F.binds fun _ _ _ _ _ _ us hl => match us, hl with | [_, _], _ => rfl
abbrev N_l_same : List Str := ["_law_told", "_law_expected"]
theorem sc_l_same : FnScope N_l_same ["_law_told", "_law_expected"] (defScope s_l_same) := ⟨rfl, rfl, rfl, by decide +kernel, rfl, by decide +kernel, by decide +kernel⟩
theorem bd_l_same {K : PySem.W.Frag} {f : Addr} {fd : FuncData} (F : Fun K "_law_same" "_law_same" s_l_same f fd) : Binds K fd ["_law_told", "_law_expected"] [] := F.binds fun _ _ _ _ _ _ us hl => match us, hl with | [_, _], _ => rfl
abbrev N_l_entry : List Str := ["_law_steps_here", "_law_row", "_law_move", "_law_step"]
theorem sc_l_entry : FnScope N_l_entry ["_law_steps_here", "_law_row"] (defScope s_l_entry) := ⟨rfl, rfl, rfl, by decide +kernel, rfl, by decide +kernel, by decide +kernel⟩
theorem bd_l_entry {K : PySem.W.Frag} {f : Addr} {fd : FuncData} (F : Fun K "_law_entry" "_law_entry" s_l_entry f fd) : Binds K fd ["_law_steps_here", "_law_row"] [] := F.binds fun _ _ _ _ _ _ us hl => match us, hl with | [_, _], _ => rfl
abbrev N_l_right : List Str := ["_law_stands_here", "_law_thing", "_law_stand_here"]
theorem sc_l_right : FnScope N_l_right ["_law_stands_here", "_law_thing"] (defScope s_l_right) := ⟨rfl, rfl, rfl, by decide +kernel, rfl, by decide +kernel, by decide +kernel⟩
theorem bd_l_right {K : PySem.W.Frag} {f : Addr} {fd : FuncData} (F : Fun K "_law_right" "_law_right" s_l_right f fd) : Binds K fd ["_law_stands_here", "_law_thing"] [] := F.binds fun _ _ _ _ _ _ us hl => match us, hl with | [_, _], _ => rfl
abbrev N_l_spoiled : List Str := ["_law_drawer", "_law_stands_here", "_law_book_here", "_law_names_here", "_law_stand_here", "_law_steps_here", "_law_choice"]
theorem sc_l_spoiled : FnScope N_l_spoiled ["_law_drawer", "_law_stands_here", "_law_book_here"] (defScope s_l_spoiled) := ⟨rfl, rfl, rfl, by decide +kernel, rfl, by decide +kernel, by decide +kernel⟩
theorem bd_l_spoiled {K : PySem.W.Frag} {f : Addr} {fd : FuncData} (F : Fun K "_law_spoiled" "_law_spoiled" s_l_spoiled f fd) : Binds K fd ["_law_drawer", "_law_stands_here", "_law_book_here"] [] := F.binds fun _ _ _ _ _ _ us hl => match us, hl with | [_, _, _], _ => rfl
abbrev N_l_run : List Str := ["_law_script", "_law_stands_here", "_law_start", "_law_run_here", "_law_at", "_law_k", "_law_steps_here", "_law_drawer"]
theorem sc_l_run : FnScope N_l_run ["_law_script", "_law_stands_here", "_law_start"] (defScope s_l_run) := ⟨rfl, rfl, rfl, by decide +kernel, rfl, by decide +kernel, by decide +kernel⟩
theorem bd_l_run {K : PySem.W.Frag} {f : Addr} {fd : FuncData} (F : Fun K "_law_run" "_law_run" s_l_run f fd) : Binds K fd ["_law_script", "_law_stands_here", "_law_start"] [] := F.binds fun _ _ _ _ _ _ us hl => match us, hl with | [_, _, _], _ => rfl
abbrev N_l_breach : List Str := ["_law_stands_here", "_law_book_here", "_law_start", "_law_run_here", "_law_at", "_law_k"]
theorem sc_l_breach : FnScope N_l_breach ["_law_stands_here", "_law_book_here", "_law_start", "_law_run_here"] (defScope s_l_breach) := ⟨rfl, rfl, rfl, by decide +kernel, rfl, by decide +kernel, by decide +kernel⟩
theorem bd_l_breach {K : PySem.W.Frag} {f : Addr} {fd : FuncData} (F : Fun K "_law_breach" "_law_breach" s_l_breach f fd) : Binds K fd ["_law_stands_here", "_law_book_here", "_law_start", "_law_run_here"] [] := F.binds fun _ _ _ _ _ _ us hl => match us, hl with | [_, _, _, _], _ => rfl
abbrev N_l_asked : List Str := ["_law_work", "_law_book_here", "_law_run_here", "_law_found", "_law_told", "e"]
theorem sc_l_asked : FnScope N_l_asked ["_law_work", "_law_book_here", "_law_run_here"] (defScope s_l_asked) := ⟨rfl, rfl, rfl, by decide +kernel, rfl, by decide +kernel, by decide +kernel⟩
theorem bd_l_asked {K : PySem.W.Frag} {f : Addr} {fd : FuncData} (F : Fun K "_law_asked" "_law_asked" s_l_asked f fd) : Binds K fd ["_law_work", "_law_book_here", "_law_run_here"] [] := F.binds fun _ _ _ _ _ _ us hl => match us, hl with | [_, _, _], _ => rfl
abbrev N_law : List Str := ["_law_script", "_law_drawer", "_law_spoil", "_law_cut", "_law_hands", "_law_names_here", "_law_stands_here", "_law_work", "_law_book_here", "_law_run_here", "_law_before", "_law_thing", "_law_right_here", "_law_at", "_law_due"]
theorem sc_law : FnScope N_law ["_law_script"] (defScope s_law) := ⟨rfl, rfl, rfl, by decide +kernel, rfl, by decide +kernel, by decide +kernel⟩
theorem bd_law {K : PySem.W.Frag} {f : Addr} {fd : FuncData} (F : Fun K "law" "law" s_law f fd) : Binds K fd ["_law_script"] [] := F.binds fun _ _ _ _ _ _ us hl => match us, hl with | [_], _ => rfl
end Law
namespace Law
open PySem PySem.Spec PyProof.Rows L2 Ox
local macro_rules | `(tactic| walk_at "hp") => `(tactic| first
  | assumption
  | exact upd_same
  | (refine (upd_ne ?_).trans ?_; (walk_at "ne"); (walk_at "hp")))
local macro_rules | `(tactic| walk_at "ne") => `(tactic| first
  | assumption
  | exact Ne.symm (by assumption)
  | exact ne_old (by assumption) (by walk_at "hp")
  | exact Ne.symm (ne_old (by assumption) (by walk_at "hp"))
  | exact ne_two (by walk_at "hp") (by walk_at "hp") (by intro z; cases z)
  | exact fun z => absurd z (by decide))
local macro_rules | `(tactic| walk_at "kd") => `(tactic| first
  | exact .non
  | exact .bl _
  | exact .int _
  | exact .str _
  | assumption
  | exact .lst (SqL.of (by walk_at "hp"))
  | exact .tup (SqT.of (by walk_at "hp"))
  | exact .dict (.inl (by walk_at "hp")))
local macro_rules | `(tactic| walk_at "cond") => `(tactic| first
  | omega
  | exact mulok_r (by omega) (by omega)
  | exact mulok_l (by omega) (by omega)
  | exact divok (by omega) (by omega)
  | exact divok2 (by omega) (by omega)
  | exact ⟨by omega, by decide +kernel⟩
  | decide +kernel)
local macro_rules | `(tactic| walk_at "go") => `(tactic| repeat (first
  | (with_reducible refine x_seq ?_)
  | (with_reducible refine x_next ?_)
  | (with_reducible refine x_brk ?_)
  | (with_reducible refine x_cont ?_)
  | (with_reducible refine x_ret ?_)
  | (with_reducible refine x_retN ?_)
  | (with_reducible refine x_set ?_)
  | (with_reducible refine x_if ?_)
  | (with_reducible refine x_drop ?_)
  | (with_reducible refine x_par ?_)
  | (with_reducible refine x_par2 ?_)
  | (with_reducible refine x_setL ?_)
  | ((with_reducible refine' x_var ?xh ?_); (case xh => exact rfl))
  | ((with_reducible refine' x_aug ?xh ?_); (case xh => exact rfl))
  | (with_reducible refine x_c ?_)
  | (with_reducible refine x_op ?_)
  | (with_reducible refine x_un ?_)
  | (with_reducible refine x_I0 ?_)
  | (with_reducible refine x_ipI ?_)
  | ((with_reducible refine x_I ?xh ?_); (case xh => walk_at "cond"))
  | (with_reducible refine x_U ?_)
  | (with_reducible refine x_eqI ?_)
  | (with_reducible refine x_eqS ?_)
  | (with_reducible refine x_eqB ?_)
  | (with_reducible refine x_neI ?_)
  | (with_reducible refine x_neS ?_)
  | (with_reducible refine x_neB ?_)
  | (with_reducible refine x_blV ?_)
  | (with_reducible refine x_bl ?_)
  | (with_reducible refine x_test ?_)
  | (with_reducible refine x_B ?_)
  | (with_reducible refine x_not ?_)
  | (with_reducible refine x_and ?_)
  | (with_reducible refine x_or ?_)
  | (with_reducible refine x_andV ?_)
  | (with_reducible refine x_orV ?_)
  | (with_reducible refine x_notV ?_)
  | (with_reducible refine x_ifE ?_)
  | (with_reducible refine x_chain ?_)
  | (with_reducible refine x_nil ?_)
  | (with_reducible refine x_cons ?_)
  | (with_reducible refine x_tup ?_)
  | (with_reducible refine x_lst ?_)
  | (with_reducible refine x_cb ?_)
  | (with_reducible refine x_call ?_)
  | (with_reducible refine x_make ?_)
  | (with_reducible refine x_Fld ?_)
  | (with_reducible refine x_forL ?_)
  | (with_reducible refine x_forT ?_)
  | (with_reducible refine x_forR ?_)
  | (with_reducible refine x_forR2 ?_)
  | (with_reducible refine x_forS ?_)
  | (with_reducible refine x_forK ?_)
  | (with_reducible refine x_forI ?_)
  | (with_reducible refine x_forV ?_)
  | (with_reducible refine x_g1 ?_)
  | (with_reducible refine x_lc ?_)
  | (with_reducible refine x_dc ?_)
  | (with_reducible refine x_yes1 ?_)
  | (with_reducible refine x_iK ?_)
  | (with_reducible refine x_iV ?_)
  | (with_reducible refine x_iI ?_)
  | (with_reducible refine x_iL ?_)
  | (with_reducible refine x_iT ?_)
  | (with_reducible refine x_iS ?_)
  | (with_reducible refine x_iR ?_)
  | (with_reducible refine x_dget ?_)
  | (with_reducible refine x_din ?_)
  | (with_reducible refine x_dnin ?_)
  | (with_reducible refine x_dput ?_)
  | (with_reducible refine x_newK ?_)
  | (with_reducible refine x_listV ?_)
  | (with_reducible refine x_sfld ?_)
  | (with_reducible refine x_revL ?_)
  | (with_reducible refine x_prop ?_)
  | (with_reducible refine x_sl ?_)
  | (with_reducible refine x_forE ?_)
  | (with_reducible refine x_mt ?_)
  | (with_reducible refine x_nopart ?_)
  | (with_reducible refine x_part ?_)
  | (with_reducible refine x_parti ?_)
  | (with_reducible refine x_bm ?_)
  | (with_reducible refine x_bm0 ?_)
  | (with_reducible refine x_intI ?_)
  | (with_reducible refine x_max2 ?_)
  | (with_reducible refine x_min2 ?_)
  | (with_reducible refine x_abs ?_)
  | (with_reducible refine x_isN ?_)
  | (with_reducible refine x_notN ?_)
  | (with_reducible refine x_inS ?_)
  | (with_reducible refine x_ninS ?_)
  | (with_reducible refine x_T ?_)
  | (with_reducible refine x_F ?_)
  | (with_reducible refine x_nT ?_)
  | (with_reducible refine x_nF ?_)
  | ((with_reducible refine' x_lenL ?xh ?_); (case xh => exact SqL.of (by walk_at "hp")))
  | ((with_reducible refine' x_tyL ?xh ?_); (case xh => exact SqL.of (by walk_at "hp")))
  ))
/-! ### a list over a range, ends of an if -/
theorem lcR {D : Addr} {g : TG} {tt : TT} {te : TE} {vs : List Nat} {σ : L2.St} {H : Hp} {Qd : Hp → Prop} {m : Nat} (Pv : Nat → Hp → Prop) (h0 : Pv 0 (upd H D (.lst [])))
    (hs : ∀ i H, i < m → Pv i H → g (.int (i : Int)) (wipe σ vs) H fun σ2 H2 => wipe σ2 vs = wipe σ vs ∧ tt σ2 H2 fun b H3 =>
      if b = true then te σ2 H3 fun y H4 => ∃ acc, H4 D = some (.lst acc) ∧ acc.length < sizeLine ∧ Pv (i + 1) (upd H4 D (.lst (acc ++ [y]))) else Pv (i + 1) H3) (hd : ∀ H, Pv m H → Qd H) : LcP (Itr 0 m) g tt te vs σ D Qd H :=
  lc_by walk_range Pv h0 (fun _ _ _ _ => trivial) (fun i x H H' hi hp y => by
    obtain ⟨rfl, rfl⟩ := y
    dsimp only
    rw [Int.zero_add]
    exact hs i _ hi hp) hd
/-- both ends of an if go on alike -/
theorem if_join {α : Type} {c : TT} {t e : TS} {n : L2.St → Hp → Prop} {r : VK} {b k : L2.St → Hp → Prop} {σ : L2.St} {H : Hp} (S : α → Prop) (f : α → L2.St) (h : ∀ n' : L2.St → Hp → Prop, (∀ a, S a → n' (f a) H) → tIfS c t e ⟨n', r, b, k⟩ σ H) (hn : ∀ a, S a → n (f a) H) : tIfS c t e ⟨n, r, b, k⟩ σ H := h n hn
theorem if_joinH {α : Type} {c : TT} {t e : TS} {n : L2.St → Hp → Prop} {r : VK} {b k : L2.St → Hp → Prop} {σ : L2.St} {H : Hp} (S : α → Hp → Prop) (f : α → L2.St) (h : ∀ n' : L2.St → Hp → Prop, (∀ a H', S a H' → n' (f a) H') → tIfS c t e ⟨n', r, b, k⟩ σ H) (hn : ∀ a H', S a H' → n (f a) H') : tIfS c t e ⟨n, r, b, k⟩ σ H := h n hn
/-! ### family C: a drawer; nothing is said of what is drawn but its bounds -/
abbrev intsV (ns : List Int) : List V := ns.map V.int
def PoolAt (H : Hp) (p : Addr) : Prop := ∃ (c : Int) (f : Bool) (s n : Int), H p = some (.lst [.int c, .bl f, .int s, .int n])
def spOpen (K : PySem.W.Frag) : Sp := fun vs H Q _ => ∃ (a : Addr) (ns : List Int) (k : Int), vs = [.ref a, .int k] ∧ SqL K H a (intsV ns) ∧ ns.length ≤ 63 ∧ 0 ≤ k ∧ k ≤ 100 ∧
  ∀ H' p, L2.Same H H' → H p = none → PoolAt H' p → Q (.ref p) H'
def spDraw : Sp := fun vs H Q _ => ∃ (p : Addr) (m : Int), vs = [.ref p, .int m] ∧ PoolAt H p ∧ 0 < m ∧ m < 2 ^ 200 ∧
  ∀ H' r, But p H H' → PoolAt H' p → 0 ≤ r → r < m → Q (.int r) H'
theorem intsV_at {ns : List Int} {j : Nat} {z : Int} (h : ns[j]? = some z) : atI (intsV ns) (j : Int) = some (.int z) := atI_nat (by rw [List.getElem?_map, h]; rfl)
section
variable {P : Program} {w : World} {K : PySem.W.Frag} {mg : Str → Option Value} {base : Heap}
theorem ok_draw {f : Addr} {fd : FuncData} (F : Fun K "_law_draw" "_law_draw" s_draw f fd) (Z_int : mg "int" = none) : FnOk P w K mg base CX0 1 f fd ["_law_drawer", "_law_many"] spDraw := by
  refine F.ok sc_draw (fun vs H Q E h => ?_) (fun cdv A outer s H vs Q E hr h => ?_)
  · obtain ⟨_, _, rfl, _⟩ := h
    rfl
  · obtain ⟨p, m, rfl, ⟨c, fl, sd, n, hp⟩, hm, hm2, k⟩ := h
    refine ⟨_, (pss_cons (ps_if (PW.pt (pw_and (pt_val (pe_ix ix_list (pv 0) pe_int (fun _ _ => rfl))) (pw_and1 (pt_cmpR op_gt (pe_ix ix_list (pv 0) pe_int (fun _ _ => rfl)) pe_int (nomark _)))))
      (pss_cons (ps_set (i := 2) sc_draw.nd rfl (Or.inl rfl) (pe_op op_mod (pe_callTy call_intA (by rfl) Z_int (by decide +kernel) (pa_cons (pe_ix ix_list (pv 0) pe_int (fun _ _ => rfl)) pa_nil)) (pv 1)))
      (pss_cons (ps_asg (pe_op op_fdivA (pe_ix ix_list (pv 0) pe_int (fun _ _ => rfl)) (pv 1)) (pg_sub (pv 0) pe_int set_list))
      (pss_one (ps_ret (pv 2)))))
      pss_nil)
      (pss_cons (ps_asg (pe_op op_add (pe_ix ix_list (pv 0) pe_int (fun _ _ => rfl)) pe_int) (pg_sub (pv 0) pe_int set_list))
      (pss_cons (ps_set (i := 2) sc_draw.nd rfl (Or.inl rfl) (pe_op op_mod (pe_callTy call_intA (by rfl) Z_int (by decide +kernel) (pa_cons (pe_op op_mulA (pe_op op_add (pe_op op_add (pe_ix ix_list (pv 0) pe_int (fun _ _ => rfl)) (pe_op op_mulA pe_int (pe_ix ix_list (pv 0) pe_int (fun _ _ => rfl)))) pe_int) pe_int) pa_nil)) pe_int))
      (pss_cons (ps_set (i := 2) sc_draw.nd rfl (Or.inl rfl) (pe_op op_mod (pe_callTy call_intA (by rfl) Z_int (by decide +kernel) (pa_cons (pe_op op_mulA (pv 2) (pe_op op_add (pe_op op_fdivA (pv 2) pe_int) pe_int)) pa_nil)) pe_int))
      (pss_cons (ps_set (i := 2) sc_draw.nd rfl (Or.inl rfl) (pe_op op_mod (pe_callTy call_intA (by rfl) Z_int (by decide +kernel) (pa_cons (pe_op op_mulA (pv 2) (pe_op op_add (pe_op op_fdivA (pv 2) pe_int) pe_int)) pa_nil)) pe_int))
      (pss_one (ps_ret (pe_op op_mod (pe_callTy call_intA (by rfl) Z_int (by decide +kernel) (pa_cons (pe_op op_fdivA (pv 2) pe_int) pa_nil)) (pv 1))))))))), ?_⟩
    have fin : ∀ (r : Int) (H' : Hp), But p H H' → PoolAt H' p → Q (.int (r % m)) H' := fun r H' b pp => k H' _ b pp (Int.emod_nonneg _ (by omega)) (Int.emod_lt_of_pos _ hm)
    refine x_seq ?_
    refine if_joinH (α := Unit) (fun _ H' => H' = H) (fun _ => [some (.ref p), some (.int m), none]) (fun n' hn' => ?_) ?_
    · walk_at "go"
      refine x_ixl 1 (SqL.of hp) rfl rfl ?_
      walk_at "go"
      cases fl with
      | false =>
        walk_at "go"
        exact hn' () H rfl
      | true =>
        walk_at "go"
        refine x_ixl 0 (SqL.of hp) rfl rfl ?_
        walk_at "go"
        refine x_dec (fun hc => ?_) (fun hc => ?_)
        · walk_at "go"
          refine x_ixl 0 (SqL.of hp) rfl rfl ?_
          walk_at "go"
          refine x_ixl 0 (SqL.of hp) rfl rfl ?_
          walk_at "go"
          refine x_setl (j := 0) hp rfl (by simp) ?_
          walk_at "go"
          exact fin c _ (But.refl.at_) ⟨_, _, _, _, upd_same⟩
        · walk_at "go"
          exact hn' () H rfl
    · rintro ⟨⟩ H' rfl
      walk_at "go"
      refine x_ixl 3 (SqL.of hp) rfl rfl ?_
      walk_at "go"
      refine x_setl (j := 3) hp rfl (by simp) ?_
      walk_at "go"
      refine x_ixl 2 (SqL.of upd_same) rfl rfl ?_
      walk_at "go"
      refine x_ixl 3 (SqL.of upd_same) rfl rfl ?_
      walk_at "go"
      exact fin _ _ (But.refl.at_) ⟨_, _, _, _, upd_same⟩
theorem ok_l_open {f : Addr} {fd : FuncData} (F : Fun K "_law_open" "_law_open" s_l_open f fd) (Z_len : mg "len" = none) (Z_int : mg "int" = none) : FnOk P w K mg base CX0 1 f fd ["_law_script", "_law_k"] (spOpen K) := by
  refine F.ok sc_l_open (fun vs H Q E h => ?_) (fun cdv A outer s H vs Q E hr h => ?_)
  · obtain ⟨_, _, _, rfl, _⟩ := h
    rfl
  · obtain ⟨a, ns, kk, rfl, hS, hlen, k0, k1, k⟩ := h
    refine ⟨_, (pss_cons (ps_set (i := 2) sc_l_open.nd rfl (Or.inl rfl) pe_int)
      (pss_cons (ps_if (pt_cmpR op_lt (pv 1) (pe_callB call_lenA (by rfl) Z_len (by decide +kernel) (pa_cons (pv 0) pa_nil)) (nomark _))
      (pss_one (ps_set (i := 2) sc_l_open.nd rfl (Or.inl rfl) (pe_op op_mod (pe_callTy call_intA (by rfl) Z_int (by decide +kernel) (pa_cons (pe_ix ix_list (pv 0) (pv 1) (fun _ _ => rfl)) pa_nil)) (pe_op op_powW (pe_op op_powW pe_int pe_int) pe_int))))
      pss_nil)
      (pss_one (ps_ret (pe_lst (pa_cons (pv 2) (pa_cons (pe_cmpR op_ge (pv 2) (pe_op op_powW pe_int pe_int) (nomark _)) (pa_cons (pe_op op_mod (pe_op op_add (pv 2) (pe_op op_mulA pe_int (pe_op op_add (pv 1) pe_int))) pe_int) (pa_cons pe_int pa_nil))))))))), ?_⟩
    walk_at "go"
    refine x_lenL hS ?_
    walk_at "go"
    refine x_dec (fun hc => ?_) (fun hc => ?_)
    · rw [List.length_map] at hc
      obtain ⟨z, hz⟩ : ∃ z, ns[kk.toNat]? = some z := ⟨_, List.getElem?_eq_getElem (by omega)⟩
      have hz2 : (intsV ns)[kk.toNat]? = some (.int z) := by rw [List.getElem?_map, hz]; rfl
      walk_at "go"
      refine x_ixl kk.toNat hS (by omega) hz2 ?_
      walk_at "go"
      refine ⟨sz_le (by simp), fun p hp => ?_⟩
      exact k _ p (same_new hp) hp ⟨_, _, _, _, upd_same⟩
    · walk_at "go"
      refine ⟨sz_le (by simp), fun p hp => ?_⟩
      exact k _ p (same_new hp) hp ⟨_, _, _, _, upd_same⟩
end
theorem PoolAt.upd {H : Hp} {p q : Addr} {o : HO} (h : PoolAt H p) (n : p ≠ q) : PoolAt (upd H q o) p := by
  obtain ⟨c, f, s, k, e⟩ := h
  exact ⟨c, f, s, k, by rw [upd_ne n]; exact e⟩
theorem PoolAt.new {H : Hp} {p q : Addr} {o : HO} (h : PoolAt H p) (n : H q = none) : PoolAt (L2.upd H q o) p := by
  obtain ⟨c, f, s, k, e⟩ := h
  exact ⟨c, f, s, k, by rw [upd_ne (ne_of_none e n)]; exact e⟩
theorem PoolAt.ne {H : Hp} {p q : Addr} (h : PoolAt H p) (n : H q = none) : q ≠ p := by
  obtain ⟨c, f, s, k, e⟩ := h
  exact fun z => by rw [z, e] at n; cases n
theorem PoolAt.same {H H' : Hp} {p : Addr} (h : PoolAt H p) (s : L2.Same H H') : PoolAt H' p := by
  obtain ⟨c, f, sd, k, e⟩ := h
  exact ⟨c, f, sd, k, s _ _ e⟩
theorem PoolAt.ned {H : Hp} {p d : Addr} {kvs : List (Key × V)} (h : PoolAt H p) (n : H d = some (.dK kvs)) : d ≠ p := by
  obtain ⟨c, f, s, k, e⟩ := h
  exact fun z => by rw [z, e] at n; cases n
def Side (e : Int) (l : List (Str × Int)) : Prop := (∀ p ∈ l, e ≤ p.2) ∨ (∀ p ∈ l, p.2 ≤ e)
/-! ### names -/
def lowC (d : Nat) : Prop := 97 ≤ d ∧ d ≤ 122
def sgnC (d : Nat) : Prop := (97 ≤ d ∧ d ≤ 122) ∨ (48 ≤ d ∧ d ≤ 57)
instance (d : Nat) : Decidable (lowC d) := inferInstanceAs (Decidable (_ ∧ _))
instance (d : Nat) : Decidable (sgnC d) := inferInstanceAs (Decidable (_ ∨ _))
/-- a name's signs -/
def NameL (l : List Nat) : Prop := ∃ d r, l = d :: r ∧ lowC d ∧ r.length ≤ 7 ∧ ∀ e ∈ r, sgnC e
def NameS (z : Str) : Prop := NameL z.cps.toList
theorem str_len (z : Str) : z.length = z.cps.toList.length := by show z.cps.size = _; simp
theorem tl_app (x y : Str) : (x ++ y).cps.toList = x.cps.toList ++ y.cps.toList := TL.tl_append x y
theorem NameS.len {z : Str} (h : NameS z) : z.length ≤ 8 := by
  obtain ⟨d, r, e, _, hl, _⟩ := h
  rw [str_len, e]
  simp
  omega
theorem letters_at : ∀ j < 26, ("abcdefghijklmnopqrstuvwxyz" : Str).cps.toList[j]? = some (97 + j) := by decide +kernel
theorem signs_at : ∀ j < 36, ∃ d, (("abcdefghijklmnopqrstuvwxyz" : Str) ++ ("0123456789" : Str)).cps.toList[j]? = some d ∧ sgnC d := by
  have h : ∀ j < 36, ((("abcdefghijklmnopqrstuvwxyz" : Str) ++ ("0123456789" : Str)).cps.toList[j]?).any (fun d => decide (sgnC d)) = true := by decide +kernel
  intro j hj
  have h1 := h j hj
  cases e : (("abcdefghijklmnopqrstuvwxyz" : Str) ++ ("0123456789" : Str)).cps.toList[j]? with
  | none => rw [e] at h1; cases h1
  | some d => rw [e] at h1; exact ⟨d, rfl, of_decide_eq_true h1⟩
/-! ### several names, all different -/
def nmS (t : Nat) : Str := ("n" : Str) ++ Str.ofString (toString ((t : Nat) : Int))
theorem nmS_tl (t : Nat) : (nmS t).cps.toList = 110 :: TL.numL t := by
  unfold nmS
  rw [tl_app]
  have e : ("n" : Str).cps.toList = [110] := by decide +kernel
  rw [e]
  show 110 :: _ = _
  exact congrArg (List.cons 110) (TL.tl_num t)
theorem nmS_inj {a b : Nat} (h : nmS a = nmS b) : a = b := by
  have e := congrArg (fun z : Str => z.cps.toList) h
  simp only [nmS_tl, List.cons.injEq, true_and] at e
  exact TL.numL_inj e
theorem nmS_name {t : Nat} (h : t < 1000000) : NameS (nmS t) := by
  refine ⟨110, TL.numL t, nmS_tl t, ⟨by omega, by omega⟩, ?_, fun e he => ?_⟩
  · exact Nat.le_trans (TL.numL_len (k := 6) (by decide) (by simpa using h)) (by decide)
  · have := TL.numL_digits t e he
    exact .inr ⟨this.1, this.2⟩
abbrev strsV (ws : List Str) : List V := ws.map V.str
/-! ### integers and names -/
def isIntK : Kn → Bool
  | .int => true
  | _ => false
def nameL : List Nat → Bool
  | [] => false
  | d :: r => decide (r.length ≤ 7) && (decide (lowC d) && r.all fun e => decide (sgnC e))
def nameV : V → Bool
  | .str z => nameL z.cps.toList
  | _ => false
theorem nameL_iff {l : List Nat} : nameL l = true ↔ NameL l := by
  cases l with
  | nil =>
    refine ⟨fun h => (by cases h), fun h => ?_⟩
    obtain ⟨d, r, e, _⟩ := h
    cases e
  | cons d r =>
    show (decide (r.length ≤ 7) && (decide (lowC d) && r.all fun e => decide (sgnC e))) = true ↔ _
    rw [Bool.and_eq_true, Bool.and_eq_true, decide_eq_true_iff, decide_eq_true_iff, List.all_eq_true]
    refine ⟨fun ⟨h1, h2, h3⟩ => ⟨d, r, rfl, h2, h1, fun e he => of_decide_eq_true (h3 e he)⟩, fun h => ?_⟩
    obtain ⟨d', r', e, h2, h1, h3⟩ := h
    injection e with e1 e2
    subst e1 e2
    exact ⟨h1, h2, fun e he => decide_eq_true (h3 e he)⟩
theorem NameS.v {z : Str} (h : NameS z) : nameV (.str z) = true := nameL_iff.mpr h
/-- a value of a known kind; a text not too long -/
def Fine (K : PySem.W.Frag) (H : Hp) (x : V) (k : Kn) : Prop := Kd K H x k ∧ ∀ z, x = .str z → z.length ≤ 10000
def spIsInt (K : PySem.W.Frag) : Sp := fun vs H Q _ => ∃ x k, vs = [x] ∧ Kd K H x k ∧ Q (.bl (isIntK k)) H
def spIsName (K : PySem.W.Frag) : Sp := fun vs H Q _ => ∃ x k, vs = [x] ∧ Fine K H x k ∧ Q (.bl (nameV x)) H
section
variable {P : Program} {w : World} {K : PySem.W.Frag} {mg : Str → Option Value} {base : Heap}
theorem ok_is_integer {f : Addr} {fd : FuncData} (F : Fun K "is_integer" "is_integer" s_is_integer f fd) (Z_int : mg "int" = none) (Z_bool : mg "bool" = none) (Z_isinstance : mg "isinstance" = none) : FnOk P w K mg base CX0 1 f fd ["thing"] (spIsInt K) := by
  refine F.ok sc_is_integer (fun vs H Q E h => ?_) (fun cdv A outer s H vs Q E hr h => ?_)
  · obtain ⟨_, _, rfl, _⟩ := h
    rfl
  · obtain ⟨x, k, rfl, hk, q⟩ := h
    refine ⟨_, (pss_one (ps_ret (pe_and (pe_callB call_isi (by rfl) Z_isinstance (by decide +kernel) (pa_cons (pv 0) (pa_cons (pe_bltn (v := .ty "int") (by rfl) Z_int (by decide +kernel) rfl) pa_nil))) (pe_one (pe_not (pe_callB call_isi (by rfl) Z_isinstance (by decide +kernel) (pa_cons (pv 0) (pa_cons (pe_bltn (v := .ty "bool") (by rfl) Z_bool (by decide +kernel) rfl) pa_nil)))))))), ?_⟩
    walk_at "go"
    refine x_isiInt hk ?_
    walk_at "go"
    cases k
    case int =>
      refine x_T ?_
      walk_at "go"
      refine x_isiBool hk ?_
      walk_at "go"
      exact q
    case bl =>
      refine x_T ?_
      walk_at "go"
      refine x_isiBool hk ?_
      walk_at "go"
      exact q
    all_goals
      refine x_F ?_
      exact q
theorem ok_is_name {f : Addr} {fd : FuncData} (F : Fun K "is_name" "is_name" s_is_name f fd) (Z_str : mg "str" = none) (Z_len : mg "len" = none) (Z_isinstance : mg "isinstance" = none) : FnOk P w K mg base CX0 1 f fd ["thing"] (spIsName K) := by
  refine F.ok sc_is_name (fun vs H Q E h => ?_) (fun cdv A outer s H vs Q E hr h => ?_)
  · obtain ⟨_, _, rfl, _⟩ := h
    rfl
  · obtain ⟨x, k, rfl, ⟨hk, hz⟩, q⟩ := h
    refine ⟨_, (pss_cons (ps_if (PW.pt (pw_or (pt_not (pt_val (pe_callB call_isi (by rfl) Z_isinstance (by decide +kernel) (pa_cons (pv 0) (pa_cons (pe_bltn (v := .ty "str") (by rfl) Z_str (by decide +kernel) rfl) pa_nil))))) (pw_or1 (pt_not (pt_chain op_le op_le pe_int (pe_callB call_lenA (by rfl) Z_len (by decide +kernel) (pa_cons (pv 0) pa_nil)) pe_int)))))
      (pss_one (ps_ret pe_bl))
      pss_nil)
      (pss_cons (ps_if (pt_not (pt_chain op_leS op_leS pe_str (pe_ix ix_str (pv 0) pe_int (fun _ _ => rfl)) pe_str))
      (pss_one (ps_ret pe_bl))
      pss_nil)
      (pss_cons (ps_for PassesOwn.never rfl (pi_str (pv 0)) (pg_name (i := 1) sc_is_name.nd rfl (Or.inl rfl))
      (pss_one (ps_if (PW.pt (pw_and (pt_not (pt_chain op_leS op_leS pe_str (pv 1) pe_str)) (pw_and1 (pt_not (pt_chain op_leS op_leS pe_str (pv 1) pe_str)))))
      (pss_one (ps_ret pe_bl))
      pss_nil)))
      (pss_one (ps_ret pe_bl))))), ?_⟩
    walk_at "go"
    refine x_isiStr hk ?_
    walk_at "go"
    have other : ∀ {x}, (∀ z, x ≠ V.str z) → nameV x = false := fun {x} h => by
      cases x with
      | str z => exact absurd rfl (h z)
      | _ => rfl
    cases hk with
    | str z =>
      have hzl := hz z rfl
      have hzs : z.length ≤ sizeLine := sz_le hzl
      refine x_nT ?_
      walk_at "go"
      refine x_lenS hzs ?_
      walk_at "go"
      have el := str_len z
      refine x_dec (fun h1 => ?_) (fun h1 => ?_)
      · walk_at "go"
        refine x_ndec (fun h8 => ?_) (fun h8 => ?_)
        · walk_at "go"
          have e : nameV (.str z) = false := by
            show nameL z.cps.toList = false
            cases ez : z.cps.toList with
            | nil => rfl
            | cons d r =>
              rw [el, ez] at h8
              simp at h8
              show (decide (r.length ≤ 7) && _) = false
              rw [decide_eq_false (by omega)]
              rfl
          rw [e] at q
          exact q
        · walk_at "go"
          cases ez : z.cps.toList with
          | nil =>
            rw [el, ez] at h1
            simp at h1
          | cons d r =>
            have hl7 : r.length ≤ 7 := by
              rw [el, ez] at h8
              simp at h8
              omega
            refine x_ixs 0 hzs rfl (by rw [ez]; rfl) ?_
            refine x_leL 97 chr_a ?_
            walk_at "go"
            have neg : ¬ lowC d → Q (.bl false) H := fun hn => by
              have e : nameV (.str z) = false := by
                show nameL z.cps.toList = false
                rw [ez]
                show (decide (r.length ≤ 7) && (decide (lowC d) && _)) = false
                rw [decide_eq_false hn]
                simp
              rw [e] at q
              exact q
            refine x_dec (fun ha => ?_) (fun ha => ?_)
            · walk_at "go"
              refine x_leR 122 chr_z ?_
              walk_at "go"
              refine x_ndec (fun hb => ?_) (fun hb => ?_)
              · walk_at "go"
                exact neg fun hl => hb hl.2
              · walk_at "go"
                have hlow : lowC d := ⟨ha, hb⟩
                refine lpS (fun i σ H' => ∃ v, σ = [some (.str z), v] ∧ H' = H ∧ ∀ j < i, ∃ e, (d :: r)[j]? = some e ∧ sgnC e) ?_ ?_ ?_
                · exact ⟨none, rfl, rfl, fun j hj => absurd hj (by omega)⟩
                · rintro i e σ H' hi ⟨v, rfl, rfl, hall⟩
                  have hi2 : (d :: r)[i]? = some e := by rw [← ez, Array.getElem?_toList]; exact hi
                  have bad : ¬ sgnC e → Q (.bl false) H' := fun hn => by
                    have e0 : nameV (.str z) = false := by
                      show nameL z.cps.toList = false
                      rw [ez]
                      cases i with
                      | zero =>
                        have : d = e := Option.some.inj hi2
                        subst this
                        exact absurd (.inl hlow) hn
                      | succ i =>
                        have hm : e ∈ r := List.mem_of_getElem? (i := i) hi2
                        have : (r.all fun e => decide (sgnC e)) = false := by
                          cases ea : (r.all fun e => decide (sgnC e)) with
                          | false => rfl
                          | true => exact absurd (of_decide_eq_true (List.all_eq_true.mp ea e hm)) hn
                        show (decide (r.length ≤ 7) && (decide (lowC d) && (r.all fun e => decide (sgnC e)))) = false
                        rw [this]
                        simp
                    rw [e0] at q
                    exact q
                  have good : sgnC e → ∀ j < i + 1, ∃ e, (d :: r)[j]? = some e ∧ sgnC e := fun hg j hj => by
                    by_cases ej : j = i
                    · subst ej; exact ⟨e, hi2, hg⟩
                    · exact hall j (by omega)
                  walk_at "go"
                  refine x_leL 97 chr_a ?_
                  walk_at "go"
                  have second : ¬ (97 ≤ e ∧ e ≤ 122) → (48 ≤ e ∧ e ≤ 57 → sgnC e) := fun _ h => .inr h
                  refine x_dec (fun ha => ?_) (fun ha => ?_)
                  · walk_at "go"
                    refine x_leR 122 chr_z ?_
                    walk_at "go"
                    refine x_ndec (fun hb => ?_) (fun hb => ?_)
                    · walk_at "go"
                      refine x_leL 48 chr_0 ?_
                      walk_at "go"
                      refine x_dec (fun hc => ?_) (fun hc => ?_)
                      · walk_at "go"
                        refine x_leR 57 chr_9 ?_
                        walk_at "go"
                        refine x_ndec (fun hd => ?_) (fun hd => ?_)
                        · walk_at "go"
                          exact bad fun hs => by rcases hs with hs | hs <;> omega
                        · walk_at "go"
                          exact ⟨_, rfl, rfl, good (.inr ⟨hc, hd⟩)⟩
                      · walk_at "go"
                        exact bad fun hs => by rcases hs with hs | hs <;> omega
                    · walk_at "go"
                      exact ⟨_, rfl, rfl, good (.inl ⟨ha, hb⟩)⟩
                  · walk_at "go"
                    refine x_leL 48 chr_0 ?_
                    walk_at "go"
                    refine x_dec (fun hc => ?_) (fun hc => ?_)
                    · walk_at "go"
                      refine x_leR 57 chr_9 ?_
                      walk_at "go"
                      refine x_ndec (fun hd => ?_) (fun hd => ?_)
                      · walk_at "go"
                        exact bad fun hs => by rcases hs with hs | hs <;> omega
                      · walk_at "go"
                        exact ⟨_, rfl, rfl, good (.inr ⟨hc, hd⟩)⟩
                    · walk_at "go"
                      exact bad fun hs => by rcases hs with hs | hs <;> omega
                · rintro σ H' ⟨v, rfl, rfl, hall⟩
                  walk_at "go"
                  have e : nameV (.str z) = true := by
                    refine nameL_iff.mpr ⟨d, r, ez, hlow, hl7, fun e he => ?_⟩
                    obtain ⟨j, hj, hje⟩ := List.getElem_of_mem he
                    obtain ⟨e', h1, h2⟩ := hall (j + 1) (by
                      have : z.cps.size = (d :: r).length := by rw [← ez]; simp
                      rw [this]
                      simp
                      exact hj)
                    have h3 : (d :: r)[j + 1]? = some e := by
                      show r[j]? = some e
                      rw [List.getElem?_eq_getElem hj, hje]
                    rw [h3] at h1
                    cases h1
                    exact h2
                  rw [e] at q
                  exact q
            · walk_at "go"
              exact neg fun hl => ha hl.1
      · walk_at "go"
        have e : nameV (.str z) = false := by
          show nameL z.cps.toList = false
          cases ez : z.cps.toList with
          | nil => rfl
          | cons d r =>
            rw [el, ez] at h1
            simp at h1
            omega
        rw [e] at q
        exact q
    | non => rw [other (fun z => by simp)] at q; refine x_nF ?_; walk_at "go"; exact q
    | bl b => rw [other (fun z => by simp)] at q; refine x_nF ?_; walk_at "go"; exact q
    | int i => rw [other (fun z => by simp)] at q; refine x_nF ?_; walk_at "go"; exact q
    | lst h => rw [other (fun z => by simp)] at q; refine x_nF ?_; walk_at "go"; exact q
    | tup h => rw [other (fun z => by simp)] at q; refine x_nF ?_; walk_at "go"; exact q
    | dict h => rw [other (fun z => by simp)] at q; refine x_nF ?_; walk_at "go"; exact q
end
/-! ### works: the judges, of what is right -/
/-- a stand -/
inductive Sd where
  | fin
  | chance (l : List (Str × (Str × Int)))
  | hand (k : Int) (l : List (Str × Str))
/-- a dict of references, each of which stands for something -/
structure DictOf {α : Type} (R : Hp → Addr → α → Prop) (H : Hp) (d : Addr) (l : List (Str × α)) : Prop where
  ex : ∃ m : List (Str × Addr), H d = some (.dK (strK V.ref m)) ∧ m.map (·.1) = l.map (·.1) ∧ ∀ z a, (z, a) ∈ m → ∃ x, l.lookup z = some x ∧ R H a x
def PairAt (H : Hp) (a : Addr) (x : Str × Int) : Prop := H a = some (.tup [.str x.1, .int x.2])
def SdAt (H : Hp) (a : Addr) : Sd → Prop
  | .fin => H a = some (.tup [.str "end"])
  | .chance l => ∃ d, H a = some (.tup [.str "chance", .ref d]) ∧ DictOf PairAt H d l
  | .hand k l => ∃ d, H a = some (.tup [.str "hand", .int k, .ref d]) ∧ H d = some (.dK (strK V.str l))
theorem DictOf.imp {α : Type} {R : Hp → Addr → α → Prop} {H H' : Hp} {d : Addr} {l : List (Str × α)} (h : DictOf R H d l) (s : L2.Same H H') (hR : ∀ a x, R H a x → R H' a x) : DictOf R H' d l := by
  obtain ⟨m, h1, h2, h3⟩ := h.ex
  exact ⟨m, s _ _ h1, h2, fun z a hm => by
    obtain ⟨x, e, r⟩ := h3 z a hm
    exact ⟨x, e, hR _ _ r⟩⟩
theorem SdAt.same {H H' : Hp} {a : Addr} {x : Sd} (h : SdAt H a x) (s : L2.Same H H') : SdAt H' a x := by
  cases x with
  | fin => exact s _ _ h
  | chance l =>
    obtain ⟨d, h1, h2⟩ := h
    exact ⟨d, s _ _ h1, h2.imp s fun _ _ h => s _ _ h⟩
  | hand k l =>
    obtain ⟨d, h1, h2⟩ := h
    exact ⟨d, s _ _ h1, s _ _ h2⟩
theorem DictOf.same {H H' : Hp} {d : Addr} {l : List (Str × Sd)} (h : DictOf SdAt H d l) (s : L2.Same H H') : DictOf SdAt H' d l := h.imp s fun _ _ h => h.same s
/-- a right stand, of names ns and less than h hands -/
def GoodSd (h : Int) (ns : List Str) : Sd → Prop
  | .fin => True
  | .chance l => (l.map (·.1)).Nodup ∧ 1 ≤ l.length ∧ l.length ≤ 4 ∧ ∀ q ∈ l, NameS q.1 ∧ q.2.1 ∈ ns ∧ 1 ≤ q.2.2 ∧ q.2.2 ≤ 9
  | .hand k l => 0 ≤ k ∧ k < h ∧ (l.map (·.1)).Nodup ∧ 1 ≤ l.length ∧ l.length ≤ 4 ∧ ∀ q ∈ l, NameS q.1 ∧ q.2 ∈ ns
theorem x_name {K : PySem.W.Frag} {H : Hp} {Q : VK} {E : XK} {z : Str} (g : NameS z) (q : Q (.bl true) H) : spIsName K [.str z] H Q E :=
  ⟨.str z, .str, rfl, ⟨.str z, fun z' e => by cases e; exact Nat.le_trans g.len (by decide)⟩, by rw [g.v]; exact q⟩
def spIsPair (K : PySem.W.Frag) : Sp := fun vs H Q _ => ∃ a xs, vs = [.ref a] ∧ SqT K H a xs ∧ Q (.bl (decide (xs.length = 2))) H
def spIsMoves : Sp := fun vs H Q _ => ∃ (d n : Addr) (l : List (Str × Str)) (m : List (Str × Addr)), vs = [.ref d, .ref n] ∧ H d = some (.dK (strK V.str l)) ∧ n ≠ d ∧ Rd H n (.dK (strK V.ref m)) ∧ 1 ≤ l.length ∧ l.length ≤ 4 ∧
  (∀ q ∈ l, NameS q.1 ∧ NameS q.2 ∧ q.2 ∈ m.map (·.1)) ∧ ∀ H', L2.Same H H' → Q (.bl true) H'
def spIsDraws : Sp := fun vs H Q _ => ∃ (d n : Addr) (l : List (Str × (Str × Int))) (m : List (Str × Addr)), vs = [.ref d, .ref n] ∧ DictOf PairAt H d l ∧ n ≠ d ∧ Rd H n (.dK (strK V.ref m)) ∧ 1 ≤ l.length ∧ l.length ≤ 4 ∧
  (∀ z q, l.lookup z = some q → NameS z ∧ NameS q.1 ∧ q.1 ∈ m.map (·.1) ∧ 1 ≤ q.2 ∧ q.2 ≤ 9) ∧ ∀ H', L2.Same H H' → Q (.bl true) H'
theorem keyIn {m : List (Str × Addr)} {z : Str} (h : z ∈ m.map (·.1)) : (m.lookup z).isSome = true := by
  obtain ⟨x, hx⟩ := lookup_isSome h
  rw [hx]
  rfl
section
variable {P : Program} {w : World} {K : PySem.W.Frag} {mg : Str → Option Value} {base : Heap}
theorem ok_is_pair {f : Addr} {fd : FuncData} (F : Fun K "is_pair" "is_pair" s_is_pair f fd) (Z_tuple : mg "tuple" = none) (Z_len : mg "len" = none) (Z_isinstance : mg "isinstance" = none) : FnOk P w K mg base CX0 1 f fd ["thing"] (spIsPair K) := by
  refine F.ok sc_is_pair (fun vs H Q E h => ?_) (fun cdv A outer s H vs Q E hr h => ?_)
  · obtain ⟨_, _, rfl, _⟩ := h
    rfl
  · obtain ⟨a, xs, rfl, ha, q⟩ := h
    refine ⟨_, (pss_one (ps_ret (pe_and (pe_callB call_isi (by rfl) Z_isinstance (by decide +kernel) (pa_cons (pv 0) (pa_cons (pe_bltn (v := .ty "tuple") (by rfl) Z_tuple (by decide +kernel) rfl) pa_nil))) (pe_one (pe_cmpR op_eq (pe_callB call_lenA (by rfl) Z_len (by decide +kernel) (pa_cons (pv 0) pa_nil)) pe_int (nomark _)))))), ?_⟩
    walk_at "go"
    refine x_isiTup (.tup ha) ?_
    walk_at "go"
    refine x_T ?_
    walk_at "go"
    refine x_lenT ha ?_
    walk_at "go"
    have e : decide ((xs.length : Int) = 2) = decide (xs.length = 2) := decide_eq_decide.mpr (by omega)
    rw [e]
    exact q
theorem ok_is_moves {f : Addr} {fd : FuncData} (F : Fun K "is_moves" "is_moves" s_is_moves f fd) (Z_dict : mg "dict" = none) (Z_len : mg "len" = none) (Z_isinstance : mg "isinstance" = none)
    (C_is_name : Cal P w K mg base 1 "is_name" ["thing"] (spIsName K)) : FnOk P w K mg base CX0 2 f fd ["thing", "names"] spIsMoves := by
  refine F.ok sc_is_moves (fun vs H Q E h => ?_) (fun cdv A outer s H vs Q E hr h => ?_)
  · obtain ⟨_, _, _, _, rfl, _⟩ := h
    rfl
  · obtain ⟨d, n, l, m, rfl, hd, nd, hn, l1, l4, hg, q⟩ := h
    have hu := hu_of hr
    refine ⟨_, (pss_cons (ps_if (PW.pt (pw_or (pt_not (pt_val (pe_callB call_isi (by rfl) Z_isinstance (by decide +kernel) (pa_cons (pv 0) (pa_cons (pe_bltn (v := .ty "dict") (by rfl) Z_dict (by decide +kernel) rfl) pa_nil))))) (pw_or1 (pt_not (pt_chain op_le op_le pe_int (pe_callB call_lenDA (by rfl) Z_len (by decide +kernel) (pa_cons (pv 0) pa_nil)) pe_int)))))
      (pss_one (ps_ret pe_bl))
      pss_nil)
      (pss_cons (ps_lock (ps_for PassesOwn.never rfl (pi_items (pv 0)) (pg_tup rfl (pgs_cons (pg_name (i := 2) sc_is_moves.nd rfl (Or.inl rfl)) (pgs_cons (pg_name (i := 3) sc_is_moves.nd rfl (Or.inl rfl)) pgs_nil)))
      (pss_one (ps_if (PW.pt (pw_or (pt_not (pt_val (pe_cal C_is_name (hr.mono (by decide)) (by rfl) (pa_cons (pv 2) pa_nil)))) (pw_or (pt_not (pt_val (pe_cal C_is_name (hr.mono (by decide)) (by rfl) (pa_cons (pv 3) pa_nil)))) (pw_or1 (pt_cmp (pc_dnotin hu (pv 3) (pv 1)))))))
      (pss_one (ps_ret pe_bl))
      pss_nil))))
      (pss_one (ps_ret pe_bl)))), ?_⟩
    have hl : (strK V.str l).length = l.length := List.length_map ..
    walk_at "go"
    refine x_isiDict (.dict (.inl hd)) ?_
    walk_at "go"
    refine x_nT ?_
    walk_at "go"
    refine x_lenD (.inl hd) ?_
    rw [hl]
    walk_at "go"
    refine x_yes (by omega) ?_
    walk_at "go"
    refine x_nyes (by omega) ?_
    walk_at "go"
    refine x_lock hd trivial fun od => ?_
    walk_at "go"
    refine lpI (kvs := strK V.str l) (fun i σ H' => ∃ v1 v2, σ = [some (.ref d), some (.ref n), v1, v2] ∧ L2.Same (upd H d (.frz od (.dK (strK V.str l)))) H') upd_same ?_ ?_ ?_ ?_
    · exact ⟨none, none, rfl, L2.Same.refl _⟩
    · exact fun i σ H' _ ⟨_, _, _, s1⟩ => s1 d _ upd_same
    · rintro i k0 v0 σ H' T hi ⟨v1, v2, rfl, s1⟩ hT
      obtain ⟨z, x, rfl, rfl, hlx⟩ := strK_at hi
      obtain ⟨g1, g2, g3⟩ := hg _ (List.mem_of_getElem? hlx)
      have s2 : L2.Same (upd H d (.frz od (.dK (strK V.str l)))) (upd H' T (.tup [kV (Sum.inr z), .str x])) := same_upd s1 (s1.free hT)
      refine x_g2 (SqT.of upd_same) ?_
      walk_at "go"
      refine x_name g1 ?_
      walk_at "go"
      refine x_name g2 ?_
      walk_at "go"
      refine x_ninD (l := m) (same_rd s2 (rd_held nd hn)) ?_
      rw [keyIn g3]
      refine ⟨false, rfl, x_F ?_⟩
      walk_at "go"
      exact ⟨_, _, rfl, s2⟩
    · rintro σ H' ⟨v1, v2, rfl, s1⟩
      refine ⟨s1 d _ upd_same, ?_⟩
      walk_at "go"
      exact q _ (same_back hd s1)
theorem ok_is_draws {f : Addr} {fd : FuncData} (F : Fun K "is_draws" "is_draws" s_is_draws f fd) (Z_dict : mg "dict" = none) (Z_len : mg "len" = none) (Z_isinstance : mg "isinstance" = none)
    (C_is_name : Cal P w K mg base 1 "is_name" ["thing"] (spIsName K)) (C_is_pair : Cal P w K mg base 1 "is_pair" ["thing"] (spIsPair K)) (C_is_integer : Cal P w K mg base 1 "is_integer" ["thing"] (spIsInt K)) : FnOk P w K mg base CX0 2 f fd ["thing", "names"] spIsDraws := by
  refine F.ok sc_is_draws (fun vs H Q E h => ?_) (fun cdv A outer s H vs Q E hr h => ?_)
  · obtain ⟨_, _, _, _, rfl, _⟩ := h
    rfl
  · obtain ⟨d, n, l, m, rfl, hD, nd, hn, l1, l4, hg, q⟩ := h
    obtain ⟨p, hd, hk, hp⟩ := hD.ex
    have hu := hu_of hr
    refine ⟨_, (pss_cons (ps_if (PW.pt (pw_or (pt_not (pt_val (pe_callB call_isi (by rfl) Z_isinstance (by decide +kernel) (pa_cons (pv 0) (pa_cons (pe_bltn (v := .ty "dict") (by rfl) Z_dict (by decide +kernel) rfl) pa_nil))))) (pw_or1 (pt_not (pt_chain op_le op_le pe_int (pe_callB call_lenDA (by rfl) Z_len (by decide +kernel) (pa_cons (pv 0) pa_nil)) pe_int)))))
      (pss_one (ps_ret pe_bl))
      pss_nil)
      (pss_cons (ps_lock (ps_for PassesOwn.never rfl (pi_items (pv 0)) (pg_tup rfl (pgs_cons (pg_name (i := 2) sc_is_draws.nd rfl (Or.inl rfl)) (pgs_cons (pg_name (i := 3) sc_is_draws.nd rfl (Or.inl rfl)) pgs_nil)))
      (pss_cons (ps_if (PW.pt (pw_or (pt_not (pt_val (pe_cal C_is_name (hr.mono (by decide)) (by rfl) (pa_cons (pv 2) pa_nil)))) (pw_or1 (pt_not (pt_val (pe_cal C_is_pair (hr.mono (by decide)) (by rfl) (pa_cons (pv 3) pa_nil)))))))
      (pss_one (ps_ret pe_bl))
      pss_nil)
      (pss_cons (ps_if (PW.pt (pw_or (pt_not (pt_val (pe_cal C_is_name (hr.mono (by decide)) (by rfl) (pa_cons (pe_ix ix_tup (pv 3) pe_int (fun _ _ => rfl)) pa_nil)))) (pw_or1 (pt_cmp (pc_dnotin hu (pe_ix ix_tup (pv 3) pe_int (fun _ _ => rfl)) (pv 1))))))
      (pss_one (ps_ret pe_bl))
      pss_nil)
      (pss_one (ps_if (PW.pt (pw_or (pt_not (pt_val (pe_cal C_is_integer (hr.mono (by decide)) (by rfl) (pa_cons (pe_ix ix_tup (pv 3) pe_int (fun _ _ => rfl)) pa_nil)))) (pw_or1 (pt_not (pt_chain op_le op_le pe_int (pe_ix ix_tup (pv 3) pe_int (fun _ _ => rfl)) pe_int)))))
      (pss_one (ps_ret pe_bl))
      pss_nil))))))
      (pss_one (ps_ret pe_bl)))), ?_⟩
    have hl : (strK V.ref p).length = l.length := by
      rw [List.length_map]
      have := congrArg List.length hk
      rwa [List.length_map, List.length_map] at this
    walk_at "go"
    refine x_isiDict (.dict (.inl hd)) ?_
    walk_at "go"
    refine x_nT ?_
    walk_at "go"
    refine x_lenD (.inl hd) ?_
    rw [hl]
    walk_at "go"
    refine x_yes (by omega) ?_
    walk_at "go"
    refine x_nyes (by omega) ?_
    walk_at "go"
    refine x_lock hd trivial fun od => ?_
    walk_at "go"
    refine lpI (kvs := strK V.ref p) (fun i σ H' => ∃ v1 v2, σ = [some (.ref d), some (.ref n), v1, v2] ∧ L2.Same (upd H d (.frz od (.dK (strK V.ref p)))) H') upd_same ?_ ?_ ?_ ?_
    · exact ⟨none, none, rfl, L2.Same.refl _⟩
    · exact fun i σ H' _ ⟨_, _, _, s1⟩ => s1 d _ upd_same
    · rintro i k0 v0 σ H' T hi ⟨v1, v2, rfl, s1⟩ hT
      obtain ⟨z, x, rfl, rfl, hlx⟩ := strK_at hi
      obtain ⟨y, hy, hx⟩ := hp _ _ (List.mem_of_getElem? hlx)
      obtain ⟨g1, g2, g3, g4, g5⟩ := hg _ _ hy
      have s2 : L2.Same (upd H d (.frz od (.dK (strK V.ref p)))) (upd H' T (.tup [kV (Sum.inr z), .ref x])) := same_upd s1 (s1.free hT)
      have hxd : x ≠ d := fun e => by subst e; rw [show H x = _ from hx] at hd; cases hd
      have hx2 : (upd H' T (.tup [kV (Sum.inr z), .ref x])) x = some (.tup [.str y.1, .int y.2]) := s2 _ _ (by rw [upd_ne hxd]; exact hx)
      refine x_g2 (SqT.of upd_same) ?_
      walk_at "go"
      refine x_name g1 ?_
      walk_at "go"
      refine ⟨_, _, rfl, SqT.of hx2, ?_⟩
      walk_at "go"
      refine x_nyes rfl ?_
      walk_at "go"
      refine x_ixt 0 (SqT.of hx2) rfl rfl ?_
      walk_at "go"
      refine x_name g2 ?_
      walk_at "go"
      refine x_ixt 0 (SqT.of hx2) rfl rfl ?_
      walk_at "go"
      refine x_ninD (l := m) (same_rd s2 (rd_held nd hn)) ?_
      rw [keyIn g3]
      refine ⟨false, rfl, x_F ?_⟩
      walk_at "go"
      refine x_ixt 1 (SqT.of hx2) rfl rfl ?_
      walk_at "go"
      refine ⟨_, _, rfl, .int _, ?_⟩
      walk_at "go"
      refine x_nT ?_
      walk_at "go"
      refine x_ixt 1 (SqT.of hx2) rfl rfl ?_
      walk_at "go"
      refine x_yes (by omega) ?_
      walk_at "go"
      refine x_nyes (by omega) ?_
      walk_at "go"
      exact ⟨_, _, rfl, s2⟩
    · rintro σ H' ⟨v1, v2, rfl, s1⟩
      refine ⟨s1 d _ upd_same, ?_⟩
      walk_at "go"
      exact q _ (same_back hd s1)
/-- a stand, judged among the stands at n -/
def spIsStand (K : PySem.W.Frag) : Sp := fun vs H Q _ => ∃ (a n : Addr) (h : Int) (x : Sd) (m : List (Str × Addr)), vs = [.ref a, .int h, .ref n] ∧ SdAt H a x ∧ (∀ o, H n ≠ some (.dK o)) ∧ Rd H n (.dK (strK V.ref m)) ∧ GoodSd h (m.map (·.1)) x ∧ (∀ z ∈ m.map (·.1), NameS z) ∧
  ∀ H', L2.Same H H' → Q (.bl true) H'
theorem ok_is_stand {f : Addr} {fd : FuncData} (F : Fun K "is_stand" "is_stand" s_is_stand f fd) (Z_tuple : mg "tuple" = none) (Z_str : mg "str" = none) (Z_len : mg "len" = none) (Z_isinstance : mg "isinstance" = none)
    (C_is_moves : Cal P w K mg base 2 "is_moves" ["thing", "names"] spIsMoves) (C_is_draws : Cal P w K mg base 2 "is_draws" ["thing", "names"] spIsDraws) (C_is_integer : Cal P w K mg base 1 "is_integer" ["thing"] (spIsInt K)) : FnOk P w K mg base CX0 3 f fd ["thing", "hands", "names"] (spIsStand K) := by
  refine F.ok sc_is_stand (fun vs H Q E h => ?_) (fun cdv A outer s H vs Q E hr h => ?_)
  · obtain ⟨_, _, _, _, _, rfl, _⟩ := h
    rfl
  · obtain ⟨a, n, h, x, m, rfl, hx, hnf, hn, hg, hnm, q⟩ := h
    refine ⟨_, (pss_cons (ps_if (PW.pt (pw_or (pt_not (pt_val (pe_callB call_isi (by rfl) Z_isinstance (by decide +kernel) (pa_cons (pv 0) (pa_cons (pe_bltn (v := .ty "tuple") (by rfl) Z_tuple (by decide +kernel) rfl) pa_nil))))) (pw_or (pt_cmpR op_eq (pe_callB call_lenA (by rfl) Z_len (by decide +kernel) (pa_cons (pv 0) pa_nil)) pe_int (nomark _)) (pw_or1 (pt_not (pt_val (pe_callB call_isi (by rfl) Z_isinstance (by decide +kernel) (pa_cons (pe_ix ix_tup (pv 0) pe_int (fun _ _ => rfl)) (pa_cons (pe_bltn (v := .ty "str") (by rfl) Z_str (by decide +kernel) rfl) pa_nil)))))))))
      (pss_one (ps_ret pe_bl))
      pss_nil)
      (pss_cons (ps_if (pt_cmpR op_eq (pe_ix ix_tup (pv 0) pe_int (fun _ _ => rfl)) pe_str (nomark _))
      (pss_one (ps_ret (pe_cmpR op_eq (pe_callB call_lenA (by rfl) Z_len (by decide +kernel) (pa_cons (pv 0) pa_nil)) pe_int (nomark _))))
      pss_nil)
      (pss_cons (ps_if (pt_cmpR op_eq (pe_ix ix_tup (pv 0) pe_int (fun _ _ => rfl)) pe_str (nomark _))
      (pss_one (ps_ret (pe_and (pe_cmpR op_eq (pe_callB call_lenA (by rfl) Z_len (by decide +kernel) (pa_cons (pv 0) pa_nil)) pe_int (nomark _)) (pe_one (pe_cal C_is_draws (hr.mono (by decide)) (by rfl) (pa_cons (pe_ix ix_tup (pv 0) pe_int (fun _ _ => rfl)) (pa_cons (pv 2) pa_nil)))))))
      pss_nil)
      (pss_cons (ps_if (PW.pt (pw_or (pt_cmpR op_ne (pe_ix ix_tup (pv 0) pe_int (fun _ _ => rfl)) pe_str (nomark _)) (pw_or1 (pt_cmpR op_ne (pe_callB call_lenA (by rfl) Z_len (by decide +kernel) (pa_cons (pv 0) pa_nil)) pe_int (nomark _)))))
      (pss_one (ps_ret pe_bl))
      pss_nil)
      (pss_cons (ps_if (PW.pt (pw_or (pt_not (pt_val (pe_cal C_is_integer (hr.mono (by decide)) (by rfl) (pa_cons (pe_ix ix_tup (pv 0) pe_int (fun _ _ => rfl)) pa_nil)))) (pw_or1 (pt_not (pt_chain op_le op_lt pe_int (pe_ix ix_tup (pv 0) pe_int (fun _ _ => rfl)) (pv 1))))))
      (pss_one (ps_ret pe_bl))
      pss_nil)
      (pss_one (ps_ret (pe_cal C_is_moves (hr.mono (by decide)) (by rfl) (pa_cons (pe_ix ix_tup (pv 0) pe_int (fun _ _ => rfl)) (pa_cons (pv 2) pa_nil)))))))))), ?_⟩
    walk_at "go"
    cases x with
    | fin =>
      have ha : H a = some (.tup [.str "end"]) := hx
      refine x_isiTup (.tup (SqT.of ha)) ?_
      walk_at "go"
      refine x_nT ?_
      walk_at "go"
      refine x_lenT (SqT.of ha) ?_
      walk_at "go"
      refine x_no (fun z => by cases z) ?_
      walk_at "go"
      refine x_ixt 0 (SqT.of ha) rfl rfl ?_
      walk_at "go"
      refine x_isiStr (.str _) ?_
      walk_at "go"
      refine x_nT ?_
      walk_at "go"
      refine x_ixt 0 (SqT.of ha) rfl rfl ?_
      walk_at "go"
      refine x_yes rfl ?_
      walk_at "go"
      refine x_lenT (SqT.of ha) ?_
      walk_at "go"
      exact q H (L2.Same.refl H)
    | chance l =>
      obtain ⟨d, ha, hD⟩ := hx
      obtain ⟨g1, g2, g3, g4⟩ := hg
      refine x_isiTup (.tup (SqT.of ha)) ?_
      walk_at "go"
      refine x_nT ?_
      walk_at "go"
      refine x_lenT (SqT.of ha) ?_
      walk_at "go"
      refine x_no (fun z => by cases z) ?_
      walk_at "go"
      refine x_ixt 0 (SqT.of ha) rfl rfl ?_
      walk_at "go"
      refine x_isiStr (.str _) ?_
      walk_at "go"
      refine x_nT ?_
      walk_at "go"
      refine x_ixt 0 (SqT.of ha) rfl rfl ?_
      walk_at "go"
      refine x_no (by decide +kernel) ?_
      walk_at "go"
      refine x_ixt 0 (SqT.of ha) rfl rfl ?_
      walk_at "go"
      refine x_yes rfl ?_
      walk_at "go"
      refine x_lenT (SqT.of ha) ?_
      walk_at "go"
      refine x_yes rfl ?_
      walk_at "go"
      refine x_ixt 1 (SqT.of ha) rfl rfl ?_
      walk_at "go"
      have hnd : n ≠ d := fun e => by
        obtain ⟨p, hd, _⟩ := hD.ex
        rw [e] at hnf
        exact hnf _ hd
      refine ⟨d, n, l, m, rfl, hD, hnd, hn, g2, g3, fun z y hz => ?_, q⟩
      have := g4 _ (lookup_mem hz)
      exact ⟨this.1, hnm _ this.2.1, this.2.1, this.2.2.1, this.2.2.2⟩
    | hand k l =>
      obtain ⟨d, ha, hd⟩ := hx
      obtain ⟨g1, g2, g3, g4, g5, g6⟩ := hg
      refine x_isiTup (.tup (SqT.of ha)) ?_
      walk_at "go"
      refine x_nT ?_
      walk_at "go"
      refine x_lenT (SqT.of ha) ?_
      walk_at "go"
      refine x_no (fun z => by cases z) ?_
      walk_at "go"
      refine x_ixt 0 (SqT.of ha) rfl rfl ?_
      walk_at "go"
      refine x_isiStr (.str _) ?_
      walk_at "go"
      refine x_nT ?_
      walk_at "go"
      refine x_ixt 0 (SqT.of ha) rfl rfl ?_
      walk_at "go"
      refine x_no (by decide +kernel) ?_
      walk_at "go"
      refine x_ixt 0 (SqT.of ha) rfl rfl ?_
      walk_at "go"
      refine x_no (by decide +kernel) ?_
      walk_at "go"
      refine x_ixt 0 (SqT.of ha) rfl rfl ?_
      walk_at "go"
      refine x_nyes rfl ?_
      walk_at "go"
      refine x_lenT (SqT.of ha) ?_
      walk_at "go"
      refine x_nyes rfl ?_
      walk_at "go"
      refine x_ixt 1 (SqT.of ha) rfl rfl ?_
      walk_at "go"
      refine ⟨_, _, rfl, .int _, ?_⟩
      walk_at "go"
      refine x_nT ?_
      walk_at "go"
      refine x_ixt 1 (SqT.of ha) rfl rfl ?_
      walk_at "go"
      refine x_yes (by omega) ?_
      walk_at "go"
      refine x_nyes (by omega) ?_
      walk_at "go"
      refine x_ixt 2 (SqT.of ha) rfl rfl ?_
      walk_at "go"
      have hnd : n ≠ d := fun e => by
        rw [e] at hnf
        exact hnf _ hd
      refine ⟨d, n, l, m, rfl, hd, hnd, hn, g4, g5, fun y hy => ?_, q⟩
      have := g6 _ hy
      exact ⟨this.1, hnm _ this.2, this.2⟩
theorem strK_inj {α : Type} {f : α → V} (hf : ∀ a b, f a = f b → a = b) : ∀ {l l' : List (Str × α)}, strK f l = strK f l' → l = l'
  | [], [], _ => rfl
  | [], _ :: _, h => by cases h
  | _ :: _, [], h => by cases h
  | p :: r, p' :: r', h => by
    have h1 : ((Sum.inr p.1 : Key), f p.2) :: strK f r = ((Sum.inr p'.1 : Key), f p'.2) :: strK f r' := h
    injection h1 with h2 h3
    injection h2 with h4 h5
    have e1 : p.1 = p'.1 := Sum.inr.inj h4
    have e2 := hf _ _ h5
    have e3 : p = p' := by
      obtain ⟨a, b⟩ := p
      obtain ⟨c, d⟩ := p'
      cases e1
      cases e2
      rfl
    rw [e3, strK_inj hf h3]
theorem sd_held {H : Hp} {d a : Addr} {u : HO} {m : List (Str × Addr)} {z : Str} {x : Sd} {h : Int} {ns : List Str} (hd : H d = some (.dK (strK V.ref m))) (hm : (z, a) ∈ m) (hx : SdAt H a x) (hg : GoodSd h ns x) : SdAt (upd H d u) a x := by
  cases x with
  | fin =>
    have ha : H a = some (.tup [.str "end"]) := hx
    have n1 : a ≠ d := ne_of ha hd (by intro z; cases z)
    show upd H d u a = _
    rw [upd_ne n1]
    exact ha
  | chance l =>
    obtain ⟨d2, ha, hD⟩ := hx
    obtain ⟨m2, h1, h2, h3⟩ := hD.ex
    have n1 : a ≠ d := ne_of ha hd (by intro z; cases z)
    have n2 : d2 ≠ d := fun e => by
      subst e
      rw [hd] at h1
      have e1 := strK_inj (f := V.ref) (fun a b e => by cases e; rfl) (HO.dK.inj (Option.some.inj h1))
      rw [e1] at hm
      obtain ⟨y, _, hy⟩ := h3 _ _ hm
      rw [show H a = _ from hy] at ha
      injection ha with ha
      injection ha with ha
      injection ha with _ ha
      injection ha with ha _
      cases ha
    refine ⟨d2, by rw [upd_ne n1]; exact ha, ⟨m2, by rw [upd_ne n2]; exact h1, h2, fun z a hza => ?_⟩⟩
    obtain ⟨y, hy, hp⟩ := h3 _ _ hza
    refine ⟨y, hy, ?_⟩
    have n3 : a ≠ d := ne_of (show H a = some _ from hp) hd (by intro z; cases z)
    show upd H d u a = _
    rw [upd_ne n3]
    exact hp
  | hand k l =>
    obtain ⟨d2, ha, h1⟩ := hx
    have n1 : a ≠ d := ne_of ha hd (by intro z; cases z)
    have n2 : d2 ≠ d := fun e => by
      subst e
      rw [hd] at h1
      have e1 := HO.dK.inj (Option.some.inj h1)
      obtain ⟨_, _, _, hl, _⟩ := hg
      cases l with
      | nil => exact absurd hl (by decide)
      | cons p r =>
        cases m with
        | nil => cases e1
        | cons p' r' =>
          have e2 : ((Sum.inr p'.1 : Key), V.ref p'.2) :: strK V.ref r' = ((Sum.inr p.1 : Key), V.str p.2) :: strK V.str r := e1
          injection e2 with e3 _
          injection e3 with _ e4
          cases e4
    exact ⟨d2, by rw [upd_ne n1]; exact ha, by rw [upd_ne n2]; exact h1⟩
/-- the stands of a work -/
structure GoodT (h : Int) (l : List (Str × Sd)) : Prop where
  nd : (l.map (·.1)).Nodup
  l1 : 1 ≤ l.length
  l2 : l.length ≤ 100
  nm : ∀ z ∈ l.map (·.1), NameS z
  sd : ∀ z x, l.lookup z = some x → GoodSd h (l.map (·.1)) x
def spAreStands : Sp := fun vs H Q _ => ∃ (d : Addr) (h : Int) (l : List (Str × Sd)), vs = [.ref d, .int h] ∧ DictOf SdAt H d l ∧ GoodT h l ∧ ∀ H', L2.Same H H' → Q (.bl true) H'
theorem ok_are_stands {f : Addr} {fd : FuncData} (F : Fun K "are_stands" "are_stands" s_are_stands f fd) (Z_dict : mg "dict" = none) (Z_len : mg "len" = none) (Z_isinstance : mg "isinstance" = none)
    (C_is_name : Cal P w K mg base 1 "is_name" ["thing"] (spIsName K)) (C_is_stand : Cal P w K mg base 3 "is_stand" ["thing", "hands", "names"] (spIsStand K)) : FnOk P w K mg base CX0 4 f fd ["thing", "hands"] spAreStands := by
  refine F.ok sc_are_stands (fun vs H Q E h => ?_) (fun cdv A outer s H vs Q E hr h => ?_)
  · obtain ⟨_, _, _, rfl, _⟩ := h
    rfl
  · obtain ⟨d, h, l, rfl, hD, g, q⟩ := h
    obtain ⟨m, hd, hk, hp⟩ := id hD.ex
    refine ⟨_, (pss_cons (ps_if (PW.pt (pw_or (pt_not (pt_val (pe_callB call_isi (by rfl) Z_isinstance (by decide +kernel) (pa_cons (pv 0) (pa_cons (pe_bltn (v := .ty "dict") (by rfl) Z_dict (by decide +kernel) rfl) pa_nil))))) (pw_or1 (pt_not (pt_chain op_le op_le pe_int (pe_callB call_lenDA (by rfl) Z_len (by decide +kernel) (pa_cons (pv 0) pa_nil)) pe_int)))))
      (pss_one (ps_ret pe_bl))
      pss_nil)
      (pss_cons (ps_lock (ps_for PassesOwn.never rfl (pi_keys (pv 0)) (pg_name (i := 2) sc_are_stands.nd rfl (Or.inl rfl))
      (pss_one (ps_if (pt_not (pt_val (pe_cal C_is_name (hr.mono (by decide)) (by rfl) (pa_cons (pv 2) pa_nil))))
      (pss_one (ps_ret pe_bl))
      pss_nil))))
      (pss_cons (ps_lock (ps_for PassesOwn.never rfl (pi_values (pv 0)) (pg_name (i := 3) sc_are_stands.nd rfl (Or.inl rfl))
      (pss_one (ps_if (pt_not (pt_val (pe_cal C_is_stand (hr.mono (by decide)) (by rfl) (pa_cons (pv 3) (pa_cons (pv 1) (pa_cons (pv 0) pa_nil))))))
      (pss_one (ps_ret pe_bl))
      pss_nil))))
      (pss_one (ps_ret pe_bl))))), ?_⟩
    have hl : (strK V.ref m).length = l.length := by
      rw [List.length_map]
      have := congrArg List.length hk
      rwa [List.length_map, List.length_map] at this
    have g1 := g.l1
    have g2 := g.l2
    walk_at "go"
    refine x_isiDict (.dict (.inl hd)) ?_
    walk_at "go"
    refine x_nT ?_
    walk_at "go"
    refine x_lenD (.inl hd) ?_
    rw [hl]
    walk_at "go"
    refine x_yes (by omega) ?_
    walk_at "go"
    refine x_nyes (by omega) ?_
    walk_at "go"
    refine x_lock hd trivial fun od => ?_
    walk_at "go"
    refine lpK (kvs := strK V.ref m) (fun i σ H' => ∃ v1, σ = [some (.ref d), some (.int h), v1, none] ∧ L2.Same (upd H d (.frz od (.dK (strK V.ref m)))) H') upd_same ?_ ?_ ?_ ?_
    · exact ⟨none, rfl, L2.Same.refl _⟩
    · exact fun i σ H' _ ⟨_, _, s1⟩ => s1 d _ upd_same
    · rintro i k0 v0 σ H' hi ⟨v1, rfl, s1⟩
      obtain ⟨z, x, rfl, rfl, hlx⟩ := strK_at hi
      have hz : NameS z := g.nm _ (by rw [← hk]; exact List.mem_map.mpr ⟨_, List.mem_of_getElem? hlx, rfl⟩)
      walk_at "go"
      refine x_name hz ?_
      walk_at "go"
      exact ⟨_, rfl, s1⟩
    · rintro σ H1 ⟨v1, rfl, s1⟩
      refine ⟨s1 d _ upd_same, ?_⟩
      have s2 := same_back hd s1
      walk_at "go"
      have hd1 : upd H1 d (.dK (strK V.ref m)) d = some (.dK (strK V.ref m)) := upd_same
      generalize upd H1 d (.dK (strK V.ref m)) = H1 at s2 hd1 ⊢
      refine x_lock hd1 trivial fun oe => ?_
      walk_at "go"
      refine lpV (kvs := strK V.ref m) (fun i σ H' => ∃ v1 v2, σ = [some (.ref d), some (.int h), v1, v2] ∧ L2.Same (upd H1 d (.frz oe (.dK (strK V.ref m)))) H') upd_same ?_ ?_ ?_ ?_
      · exact ⟨_, _, rfl, L2.Same.refl _⟩
      · exact fun i σ H' _ ⟨_, _, _, s1⟩ => s1 d _ upd_same
      · rintro i k0 v0 σ H' hi ⟨v1, v2, rfl, s3⟩
        obtain ⟨z, x, rfl, rfl, hlx⟩ := strK_at hi
        obtain ⟨y, hy, hx⟩ := hp _ _ (List.mem_of_getElem? hlx)
        have hm1 := List.mem_of_getElem? hlx
        have hg := g.sd _ _ hy
        have hx1 : SdAt H1 x y := hx.same s2
        have hx2 : SdAt H' x y := (sd_held hd1 hm1 hx1 hg).same s3
        walk_at "go"
        refine ⟨x, d, h, y, m, rfl, hx2, fun o e => ?_, .inr ⟨oe, s3 _ _ upd_same⟩, by rw [hk]; exact hg, by rw [hk]; exact g.nm, fun H3 s4 => ?_⟩
        · rw [s3 _ _ upd_same] at e
          cases e
        walk_at "go"
        exact ⟨_, _, rfl, s3.trans s4⟩
      · rintro σ H2 ⟨v1, v2, rfl, s3⟩
        refine ⟨s3 d _ upd_same, ?_⟩
        walk_at "go"
        exact q _ (s2.trans (same_back hd1 s3))
end
/-! ### copied, leads -/
/-- {z: d[z] for z in sorted(d)} -/
theorem dc_sorted {K : PySem.W.Frag} {α : Type} [Inhabited α] {f : α → V} {σ : L2.St} {H : Hp} {Qd : Addr → Hp → Prop} {d : Addr} {l : List (Str × α)} {j n : Nat} (hd : Rd H d (.dK (strK f l))) (hnd : (l.map (·.1)).Nodup) (hl : l.length ≤ 100) (hj : j ≠ n) (hn : n < σ.length)
    (h2 : σ[j]? = some (some (.ref d))) (k : ∀ H' D l', L2.Same H H' → H D = none → H' D = some (.dK (strK f l')) → l'.Perm l → sortedS (l'.map (·.1)) = true → Qd D H') :
    rSortDA [.ref d] H fun x H1 => RunL K (fun J H1 => ∀ D, H1 D = none → DcP J (gName n) tYes (tVar n) (tDGet (tVar j) (tVar n)) [n] σ D (Qd D) H1) x H1 := by
  have ek : (strK f l).map (·.1) = (l.map (·.1)).map Sum.inr := by rw [List.map_map, List.map_map]; rfl
  refine ⟨d, _, l.map (·.1), rfl, hd, ek, by rw [List.length_map]; omega, fun ys q hperm hsort hq => runL (SqL.of upd_same) fun D4 hD4 => ?_⟩
  have hq4 : q ≠ D4 := ne_of_none upd_same hD4
  have hD40 : H D4 = none := by rw [upd_ne hq4.symm] at hD4; exact hD4
  have ynd : ys.Nodup := (hperm.nodup_iff).mpr hnd
  have ylen : ys.length = l.length := by rw [hperm.length_eq, List.length_map]
  refine dcL (xs := ys.map V.str) (fun t H' => L2.Same H H' ∧ H' q = some (.lst (ys.map V.str)) ∧ H' D4 = some (.dK (strK f ((ys.take t).map fun z => (z, (l.lookup z).getD default))))) ?_ ?_ ?_ ?_
  · exact ⟨same_upd (same_new hq) hD40, by rw [upd_ne hq4]; exact upd_same, upd_same⟩
  · exact fun t H' _ h => SqL.of h.2.1
  · rintro t x H' hx ⟨s4, hq1, hD41⟩
    rw [List.getElem?_map] at hx
    cases hz : ys[t]? with
    | none => rw [hz] at hx; cases hx
    | some z =>
      rw [hz] at hx
      have ex : V.str z = x := Option.some.inj hx
      subst ex
      have hlt : t < ys.length := (List.getElem?_eq_some_iff.mp hz).1
      have hzm : z ∈ l.map (·.1) := hperm.mem_iff.mp (List.mem_of_getElem? hz)
      obtain ⟨xz, hxz⟩ := lookup_isSome hzm
      refine x_g1 ⟨?_, x_yes1 (x_T (x_var (v := .str z) ?_ (x_dget (x_var (v := .ref d) ?_ (x_var (v := .str z) ?_ (x_getL (l := l) (same_rd s4 hd) hxz ⟨_, Sum.inr z, rfl, hD41, sz_lt (by simp; omega), same_upd s4 hD40, by rw [upd_ne hq4]; exact hq1, ?_⟩))))))⟩
      · show ((σ.set n none).set n (some (.str z))).set n none = σ.set n none
        rw [List.set_set, List.set_set]
      · show ((σ.set n none).set n _)[n]? = _
        rw [List.getElem?_set_self (by rw [List.length_set]; exact hn)]
      · show ((σ.set n none).set n _)[j]? = _
        rw [List.getElem?_set_ne hj.symm, List.getElem?_set_ne hj.symm]
        exact h2
      · show ((σ.set n none).set n _)[n]? = _
        rw [List.getElem?_set_self (by rw [List.length_set]; exact hn)]
      · rw [upd_same, strK_put, putL_new, take_succ_get hz, List.map_append]
        · simp [hxz]
        · rw [List.map_map]
          intro hm
          obtain ⟨z', hz', e'⟩ := List.mem_map.mp hm
          have e2 : z' = z := e'
          subst e2
          obtain ⟨i, hi, he⟩ := List.getElem_of_mem hz'
          have hi2 : i < t := by simp at hi; omega
          have h5 : ys[i]? = some z' := by
            rw [List.getElem_take] at he
            rw [List.getElem?_eq_getElem (by omega), he]
          have := L2.nd_ix ynd h5 hz
          omega
  · rintro H4 ⟨s4, hq1, hD41⟩
    rw [List.length_map, List.take_length] at hD41
    refine k H4 D4 _ s4 hD40 hD41 (table_perm hnd hperm default) ?_
    rw [List.map_map]
    have : ((fun x : Str × α => x.1) ∘ fun z => (z, (l.lookup z).getD default)) = id := rfl
    rw [this, List.map_id]
    exact hsort
/-- the same stand, its steps in order -/
def SdSort : Sd → Sd → Prop
  | .fin, .fin => True
  | .chance l, .chance l' => l'.Perm l ∧ sortedS (l'.map (·.1)) = true
  | .hand k l, .hand k' l' => k' = k ∧ l'.Perm l ∧ sortedS (l'.map (·.1)) = true
  | _, _ => False
def spCopied : Sp := fun vs H Q _ => ∃ (a : Addr) (x : Sd) (h : Int) (ns : List Str), vs = [.ref a] ∧ SdAt H a x ∧ GoodSd h ns x ∧ ∀ H' p x', L2.Same H H' → H p = none → SdAt H' p x' → SdSort x x' → Q (.ref p) H'
def leadsL : Sd → List Str
  | .fin => []
  | .chance l => l.map (·.2.1)
  | .hand _ l => l.map (·.2)
def spLeads (C : Addr) : Sp := fun vs H Q _ => ∃ (a dx t : Addr) (fs : List (Str × V)) (tab : List (Str × Sd)) (z : Str) (x : Sd) (h : Int) (ns : List Str), vs = [.ref a, .str z] ∧ H a = some (.ins C dx fs) ∧ fs.lookup ("table" : Str) = some (.ref t) ∧ DictOf SdAt H t tab ∧
  tab.lookup z = some x ∧ GoodSd h ns x ∧ ∀ H' p, L2.Same H H' → H p = none → H' p = some (.lst (strsV (leadsL x))) → Q (.ref p) H'
/-- what stands in the dict for a key -/
theorem DictOf.at {α : Type} {R : Hp → Addr → α → Prop} {H : Hp} {d : Addr} {l : List (Str × α)} (h : DictOf R H d l) {z : Str} {x : α} (e : l.lookup z = some x) : ∃ (m : List (Str × Addr)) (a : Addr), H d = some (.dK (strK V.ref m)) ∧ m.lookup z = some a ∧ R H a x := by
  obtain ⟨m, h1, h2, h3⟩ := h.ex
  have hz : z ∈ m.map (·.1) := by
    rw [h2]
    exact List.mem_map.mpr ⟨_, lookup_mem e, rfl⟩
  obtain ⟨a, ha⟩ := lookup_isSome hz
  obtain ⟨y, hy, r⟩ := h3 _ _ (lookup_mem ha)
  rw [e] at hy
  cases hy
  exact ⟨m, a, h1, ha, r⟩
section
variable {P : Program} {w : World} {K : PySem.W.Frag} {mg : Str → Option Value} {base : Heap} {CW : Addr}
theorem ok_copied {f : Addr} {fd : FuncData} (F : Fun K "copied" "copied" s_copied f fd) (Z_len : mg "len" = none) (Z_sorted : mg "sorted" = none) : FnOk P w K mg base CX0 1 f fd ["stand"] spCopied := by
  refine F.ok sc_copied (fun vs H Q E h => ?_) (fun cdv A outer s H vs Q E hr h => ?_)
  · obtain ⟨_, _, _, _, rfl, _⟩ := h
    rfl
  · obtain ⟨a, x, h, ns, rfl, hx, hg, q⟩ := h
    have hu := hu_of hr
    refine ⟨_, (pss_cons (ps_if (pt_cmpR op_eq (pe_ix ix_tup (pv 0) pe_int (fun _ _ => rfl)) pe_str (nomark _))
      (pss_one (ps_ret (pe_tup (pa_cons pe_str pa_nil))))
      pss_nil)
      (pss_cons (ps_set (i := 1) sc_copied.nd rfl (Or.inr rfl) (pe_ix ix_tup (pv 0) (pe_op op_sub (pe_callB call_lenA (by rfl) Z_len (by decide +kernel) (pa_cons (pv 0) pa_nil)) pe_int) (fun _ _ => rfl)))
      (pss_cons (ps_setDc (i := 2) (own := [("step", 3)]) (g := gName 3) (tt := tYes) (by rfl) sc_copied.nd rfl rfl (sw_trueD rfl rfl rfl (by decide +kernel)) (pi_list (pe_callB (call_sortedDA rfl) (by rfl) Z_sorted (by decide +kernel) (pa_cons (pv 1) pa_nil))) (blkOk_by (own := [("step", 3)]) (N := N_copied) (sc := defScope s_copied) (by decide +kernel)) (fun _ _ _ _ _ => (pg_name (i := 3) sc_copied.nd rfl (Or.inl rfl))) (fun _ _ _ _ _ => pts_nil) (fun _ _ _ _ _ => by exact (pv 3)) (fun _ _ _ _ _ => by exact (pe_dget hu (pv 1) (pv 3) (fun _ _ => rfl))))
      (pss_cons (ps_if (pt_cmpR op_eq (pe_ix ix_tup (pv 0) pe_int (fun _ _ => rfl)) pe_str (nomark _))
      (pss_one (ps_ret (pe_tup (pa_cons pe_str (pa_cons (pe_ix ix_tup (pv 0) pe_int (fun _ _ => rfl)) (pa_cons (pv 2) pa_nil))))))
      pss_nil)
      (pss_one (ps_ret (pe_tup (pa_cons pe_str (pa_cons (pv 2) pa_nil))))))))), ?_⟩
    walk_at "go"
    cases x with
    | fin =>
      have ha : H a = some (.tup [.str "end"]) := hx
      refine x_ixt 0 (SqT.of ha) rfl rfl ?_
      walk_at "go"
      refine x_yes rfl ?_
      walk_at "go"
      refine ⟨by decide, fun p hp => ?_⟩
      exact q _ p .fin (same_new hp) hp (show upd H p _ p = _ from upd_same) trivial
    | chance l =>
      obtain ⟨d, ha, hD⟩ := hx
      obtain ⟨g1, g2, g3, g4⟩ := hg
      obtain ⟨m, hd, hk, hp⟩ := hD.ex
      refine x_ixt 0 (SqT.of ha) rfl rfl ?_
      walk_at "go"
      refine x_no (by decide +kernel) ?_
      walk_at "go"
      refine x_lenT (SqT.of ha) ?_
      walk_at "go"
      refine x_ixt 1 (SqT.of ha) rfl rfl ?_
      walk_at "go"
      have hkl : m.length = l.length := by
        have := congrArg List.length hk
        rwa [List.length_map, List.length_map] at this
      refine dc_sorted (f := V.ref) (l := m) (.inl hd) (by rw [hk]; exact g1) (by omega) (by decide) (by decide : 3 < 4) rfl fun H1 D m' s1 hD1 hD2 hpm hso => ?_
      walk_at "go"
      refine x_ixt 0 (SqT.of (s1 _ _ ha)) rfl rfl ?_
      walk_at "go"
      refine x_no (by decide +kernel) ?_
      walk_at "go"
      refine ⟨sz_le (by simp), fun p hp2 => ?_⟩
      have hpk : (m'.map (·.1)).Perm (l.map (·.1)) := by rw [← hk]; exact hpm.map _
      have nDp : D ≠ p := ne_of_none hD2 hp2
      refine q _ p (.chance ((m'.map (·.1)).map fun z => (z, (l.lookup z).getD default))) (same_upd s1 (s1.free hp2)) (s1.free hp2) ?_ ⟨table_perm g1 hpk default, ?_⟩
      · refine ⟨D, upd_same, ⟨m', by rw [upd_ne nDp]; exact hD2, ?_, fun z y hzy => ?_⟩⟩
        · rw [List.map_map]
          have : ((fun x : Str × (Str × Int) => x.1) ∘ fun z => (z, (l.lookup z).getD default)) = id := rfl
          rw [this, List.map_id]
        · obtain ⟨v, hv, hr2⟩ := hp _ _ (hpm.mem_iff.mp hzy)
          refine ⟨v, ?_, (show PairAt _ _ _ from ?_)⟩
          · rw [lookup_perm (table_perm g1 hpk default) g1]
            exact hv
          · show upd H1 p _ y = _
            have hy := s1 _ _ (show H y = some _ from hr2)
            rw [upd_ne (ne_of_none hy hp2)]
            exact hy
      · rw [List.map_map]
        have : ((fun x : Str × (Str × Int) => x.1) ∘ fun z => (z, (l.lookup z).getD default)) = id := rfl
        rw [this, List.map_id]
        exact hso
    | hand k l =>
      obtain ⟨d, ha, hd⟩ := hx
      obtain ⟨_, _, g1, g2, g3, g4⟩ := hg
      refine x_ixt 0 (SqT.of ha) rfl rfl ?_
      walk_at "go"
      refine x_no (by decide +kernel) ?_
      walk_at "go"
      refine x_lenT (SqT.of ha) ?_
      walk_at "go"
      refine x_ixt 2 (SqT.of ha) rfl rfl ?_
      walk_at "go"
      refine dc_sorted (f := V.str) (l := l) (.inl hd) g1 (by omega) (by decide) (by decide : 3 < 4) rfl fun H1 D l' s1 hD1 hD2 hpm hso => ?_
      walk_at "go"
      refine x_ixt 0 (SqT.of (s1 _ _ ha)) rfl rfl ?_
      walk_at "go"
      refine x_yes rfl ?_
      walk_at "go"
      refine x_ixt 1 (SqT.of (s1 _ _ ha)) rfl rfl ?_
      walk_at "go"
      refine ⟨sz_le (by simp), fun p hp2 => ?_⟩
      have nDp : D ≠ p := ne_of_none hD2 hp2
      exact q _ p (.hand k l') (same_upd s1 (s1.free hp2)) (s1.free hp2) ⟨D, upd_same, by rw [upd_ne nDp]; exact hD2⟩ ⟨rfl, hpm, hso⟩
theorem ok_leads {f : Addr} {fd : FuncData} (F : Fun K "leads" "leads" s_leads f fd) (K_Work : Cls K CW) (N1 : NoAttr K CW "table") : FnOk P w K mg base CX0 1 f fd ["work", "stand"] (spLeads CW) := by
  refine F.ok sc_leads (fun vs H Q E h => ?_) (fun cdv A outer s H vs Q E hr h => ?_)
  · obtain ⟨_, _, _, _, _, _, _, _, _, rfl, _⟩ := h
    rfl
  · obtain ⟨a, dx, t, fs, tab, z, x, h, ns, rfl, ha, hf, hT, hz, hg, q⟩ := h
    obtain ⟨m, b, ht, hb, hx⟩ := hT.at hz
    have hu := hu_of hr
    refine ⟨_, (pss_cons (ps_set (i := 2) sc_leads.nd rfl (Or.inr rfl) (pe_dget hu (pe_fld (pv 0) rfl) (pv 1) (fun _ _ => rfl)))
      (pss_cons (ps_if (pt_cmpR op_eq (pe_ix ix_tup (pv 2) pe_int (fun _ _ => rfl)) pe_str (nomark _))
      (pss_one (ps_ret (pe_lst pa_nil)))
      pss_nil)
      (pss_cons (ps_if (pt_cmpR op_eq (pe_ix ix_tup (pv 2) pe_int (fun _ _ => rfl)) pe_str (nomark _))
      (pss_one (ps_ret (pe_lock (pe_lc (own := [("step", 3)]) (g := gName 3) (tt := tYes) (by rfl) sc_leads.nd (pi_keys (pe_ix ix_tup (pv 2) pe_int (fun _ _ => rfl))) (blkOk_by (own := [("step", 3)]) (N := N_leads) (sc := defScope s_leads) (by decide +kernel)) (fun _ _ _ _ _ => (pg_name (i := 3) sc_leads.nd rfl (Or.inl rfl))) (fun _ _ _ _ _ => pts_nil) (fun _ _ _ _ _ => by exact (pe_dget hu (pe_ix (ix_tupK (K := K)) (pv 2) pe_int (fun _ _ => rfl)) (pv 3) (fun _ _ => rfl)))))))
      pss_nil)
      (pss_one (ps_ret (pe_lock (pe_lc (own := [("step", 3)]) (g := gName 3) (tt := tYes) (by rfl) sc_leads.nd (pi_keys (pe_ix ix_tup (pv 2) pe_int (fun _ _ => rfl))) (blkOk_by (own := [("step", 3)]) (N := N_leads) (sc := defScope s_leads) (by decide +kernel)) (fun _ _ _ _ _ => (pg_name (i := 3) sc_leads.nd rfl (Or.inl rfl))) (fun _ _ _ _ _ => pts_nil) (fun _ _ _ _ _ => by exact (pe_ix (ix_tupK (K := K)) (pe_dget hu (pe_ix (ix_tupK (K := K)) (pv 2) pe_int (fun _ _ => rfl)) (pv 3) (fun _ _ => rfl)) pe_int (fun _ _ => rfl)))))))))), ?_⟩
    walk_at "go"
    refine x_fld K_Work N1 ha hf ?_
    walk_at "go"
    refine x_getL (.inl ht) hb ?_
    walk_at "go"
    cases x with
    | fin =>
      have hb1 : H b = some (.tup [.str "end"]) := hx
      refine x_ixt 0 (SqT.of hb1) rfl rfl ?_
      walk_at "go"
      refine x_yes rfl ?_
      walk_at "go"
      refine ⟨by decide, fun p hp => ?_⟩
      exact q _ p (same_new hp) hp upd_same
    | chance l =>
      obtain ⟨d, hb1, hD⟩ := hx
      obtain ⟨g1, g2, g3, g4⟩ := hg
      obtain ⟨m2, hd, hk, hp⟩ := hD.ex
      have hkl : m2.length = l.length := by
        have := congrArg List.length hk
        rwa [List.length_map, List.length_map] at this
      have nd2 : (m2.map (·.1)).Nodup := by rw [hk]; exact g1
      refine x_ixt 0 (SqT.of hb1) rfl rfl ?_
      walk_at "go"
      refine x_no (by decide +kernel) ?_
      walk_at "go"
      refine x_ixt 0 (SqT.of hb1) rfl rfl ?_
      walk_at "go"
      refine x_no (by decide +kernel) ?_
      walk_at "go"
      have nbd : b ≠ d := ne_of hb1 hd (by intro z; cases z)
      refine x_lockE hd trivial fun od => ?_
      have hb2 : (upd H d (.frz od (.dK (strK V.ref m2)))) b = some (.tup [.str "chance", .ref d]) := by rw [upd_ne nbd]; exact hb1
      walk_at "go"
      refine x_ixt 1 (SqT.of hb2) rfl rfl ?_
      refine runK upd_same ?_
      intro D hD
      have hDd : D ≠ d := fun z => by rw [z, upd_same] at hD; cases hD
      have hD0 : H D = none := by rw [upd_ne hDd] at hD; exact hD
      refine lcK (kvs := strK V.ref m2) (fun i H' => L2.Same (upd H d (.frz od (.dK (strK V.ref m2)))) H' ∧ H' D = some (.lst (strsV ((l.take i).map (·.2.1))))) ?_ ?_ ?_ ?_
      · exact ⟨same_new hD, upd_same⟩
      · exact fun i H' _ h => h.1 d _ upd_same
      · rintro i k0 v0 H' hi ⟨s1, hD1⟩
        obtain ⟨z, y, rfl, rfl, hly⟩ := strK_at hi
        have hym := List.mem_of_getElem? hly
        obtain ⟨v, hv, hr2⟩ := hp _ _ hym
        have nyd : y ≠ d := ne_of (show H y = some _ from hr2) hd (by intro z; cases z)
        have hy1 : H' y = some (.tup [.str v.1, .int v.2]) := s1 _ _ (by rw [upd_ne nyd]; exact hr2)
        have hlt : i < m2.length := (List.getElem?_eq_some_iff.mp hly).1
        have hli : l[i]? = some (z, v) := by
          have e1 : (m2.map (·.1))[i]? = some z := by rw [List.getElem?_map, hly]; rfl
          rw [hk, List.getElem?_map] at e1
          cases e2 : l[i]? with
          | none => rw [e2] at e1; cases e1
          | some q2 =>
            rw [e2] at e1
            have e3 : q2.1 = z := Option.some.inj e1
            have e4 := lookup_of g1 (z := q2.1) (x := q2.2) (List.mem_of_getElem? e2)
            rw [e3, hv] at e4
            have e5 := Option.some.inj e4
            rw [← e3, e5]
        walk_at "go"
        refine ⟨rfl, ?_⟩
        walk_at "go"
        refine x_ixt 1 (SqT.of (s1 _ _ hb2)) rfl rfl ?_
        walk_at "go"
        refine x_getL (l := m2) (.inr ⟨od, s1 _ _ upd_same⟩) (lookup_of nd2 hym) ?_
        walk_at "go"
        refine x_ixt 0 (SqT.of hy1) rfl rfl ?_
        refine ⟨_, hD1, sz_lt (by simp; omega), same_upd s1 hD, ?_⟩
        rw [upd_same, take_succ_get hli]
        simp
      · rintro H4 ⟨s1, hD1⟩
        have eL : (strK V.ref m2).length = l.length := by rw [List.length_map]; exact hkl
        rw [eL, List.take_length] at hD1
        refine ⟨s1 d _ upd_same, ?_⟩
        exact q _ D (same_back hd s1) hD0 (by rw [upd_ne hDd]; exact hD1)
    | hand k l =>
      obtain ⟨d, hb1, hd⟩ := hx
      obtain ⟨_, _, g1, g2, g3, g4⟩ := hg
      refine x_ixt 0 (SqT.of hb1) rfl rfl ?_
      walk_at "go"
      refine x_no (by decide +kernel) ?_
      walk_at "go"
      refine x_ixt 0 (SqT.of hb1) rfl rfl ?_
      walk_at "go"
      refine x_yes rfl ?_
      walk_at "go"
      have nbd : b ≠ d := ne_of hb1 hd (by intro z; cases z)
      refine x_lockE hd trivial fun od => ?_
      have hb2 : (upd H d (.frz od (.dK (strK V.str l)))) b = some (.tup [.str "hand", .int k, .ref d]) := by rw [upd_ne nbd]; exact hb1
      walk_at "go"
      refine x_ixt 2 (SqT.of hb2) rfl rfl ?_
      refine runK upd_same ?_
      intro D hD
      have hDd : D ≠ d := fun z => by rw [z, upd_same] at hD; cases hD
      have hD0 : H D = none := by rw [upd_ne hDd] at hD; exact hD
      refine lcK (kvs := strK V.str l) (fun i H' => L2.Same (upd H d (.frz od (.dK (strK V.str l)))) H' ∧ H' D = some (.lst (strsV ((l.take i).map (·.2))))) ?_ ?_ ?_ ?_
      · exact ⟨same_new hD, upd_same⟩
      · exact fun i H' _ h => h.1 d _ upd_same
      · rintro i k0 v0 H' hi ⟨s1, hD1⟩
        obtain ⟨z, y, rfl, rfl, hly⟩ := strK_at hi
        have hym := List.mem_of_getElem? hly
        have hlt : i < l.length := (List.getElem?_eq_some_iff.mp hly).1
        walk_at "go"
        refine ⟨rfl, ?_⟩
        walk_at "go"
        refine x_ixt 2 (SqT.of (s1 _ _ hb2)) rfl rfl ?_
        walk_at "go"
        refine x_getL (l := l) (.inr ⟨od, s1 _ _ upd_same⟩) (lookup_of g1 hym) ?_
        refine ⟨_, hD1, sz_lt (by simp; omega), same_upd s1 hD, ?_⟩
        rw [upd_same, take_succ_get hly]
        simp
      · rintro H4 ⟨s1, hD1⟩
        have eL : (strK V.str l).length = l.length := List.length_map ..
        rw [eL, List.take_length] at hD1
        refine ⟨s1 d _ upd_same, ?_⟩
        exact q _ D (same_back hd s1) hD0 (by rw [upd_ne hDd]; exact hD1)
end
/-! ### is a work ringless -/
def rlStep (ld : Str → List Str) (p : List (Str × Bool) × List Str) (z : Str) : List (Str × Bool) × List Str :=
  if (ld z).all (fun t => (p.1.lookup t).isSome) = true then (putL p.1 z true, p.2) else (p.1, p.2 ++ [z])
def rlPass (ld : Str → List Str) (left : List Str) (st : List (Str × Bool)) : List (Str × Bool) × List Str := left.foldl (rlStep ld) (st, [])
def rlRun (ld : Str → List Str) : Nat → List Str → List (Str × Bool) → List Str
  | 0, left, _ => left
  | n + 1, left, st => if (rlPass ld left st).2.length < left.length then rlRun ld n (rlPass ld left st).2 (rlPass ld left st).1 else (rlPass ld left st).2
def leadOf (tab : List (Str × Sd)) (z : Str) : List Str := ((tab.lookup z).map leadsL).getD []
def ringB (tab : List (Str × Sd)) (ns : List Str) : Bool := decide ((rlRun (leadOf tab) (ns.length + 1) ns []).length = 0)
def spRingless (C : Addr) : Sp := fun vs H Q _ => ∃ (a dx t n : Addr) (fs : List (Str × V)) (tab : List (Str × Sd)) (ns : List Str) (h : Int) (nm : List Str), vs = [.ref a] ∧ H a = some (.ins C dx fs) ∧ fs.lookup ("table" : Str) = some (.ref t) ∧ fs.lookup ("names" : Str) = some (.ref n) ∧
  DictOf SdAt H t tab ∧ H n = some (.tup (strsV ns)) ∧ ns.length ≤ 100 ∧ (∀ z ∈ ns, ∃ x, tab.lookup z = some x ∧ GoodSd h nm x) ∧ ∀ H', L2.Same H H' → Q (.bl (ringB tab ns)) H'
theorem leads_len {h : Int} {nm : List Str} {x : Sd} (g : GoodSd h nm x) : (leadsL x).length ≤ 4 := by
  cases x with
  | fin => exact Nat.zero_le _
  | chance l =>
    show (l.map _).length ≤ 4
    rw [List.length_map]
    exact g.2.2.1
  | hand k l =>
    show (l.map _).length ≤ 4
    rw [List.length_map]
    exact g.2.2.2.2.1
section
variable {P : Program} {w : World} {K : PySem.W.Frag} {mg : Str → Option Value} {base : Heap} {CW : Addr}
theorem ok_is_ringless {f : Addr} {fd : FuncData} (F : Fun K "is_ringless" "is_ringless" s_is_ringless f fd) (K_Work : Cls K CW) (N1 : NoAttr K CW "names") (Z_list : mg "list" = none) (Z_all : mg "all" = none) (Z_len : mg "len" = none)
    (C_leads : Cal P w K mg base 1 "leads" ["work", "stand"] (spLeads CW)) : FnOk P w K mg base CX0 2 f fd ["work"] (spRingless CW) := by
  refine F.ok sc_is_ringless (fun vs H Q E h => ?_) (fun cdv A outer s H vs Q E hr h => ?_)
  · obtain ⟨_, _, _, _, _, _, _, _, _, rfl, _⟩ := h
    rfl
  · obtain ⟨a, dx, t, n, fs, tab, ns, h, nm, rfl, ha, hft, hfn, hT, hn, hlen, hg, q⟩ := h
    have hu := hu_of hr
    refine ⟨_, (pss_cons (ps_set (i := 1) sc_is_ringless.nd rfl (Or.inl rfl) (pe_callTy call_listA (by rfl) Z_list (by decide +kernel) (pa_cons (pe_fld (pv 0) rfl) pa_nil)))
      (pss_cons (ps_set (i := 2) sc_is_ringless.nd rfl (Or.inr rfl) pe_dnewK)
      (pss_cons (ps_set (i := 3) sc_is_ringless.nd rfl (Or.inl rfl) pe_bl)
      (pss_cons (ps_while PassesOwn.never (pt_val (pv 3))
      (pss_cons (ps_set (i := 4) sc_is_ringless.nd rfl (Or.inl rfl) (pe_lst pa_nil))
      (pss_cons (ps_for PassesOwn.never rfl (pi_list (pv 1)) (pg_name (i := 5) sc_is_ringless.nd rfl (Or.inl rfl))
      (pss_one (ps_if (pt_val (pe_callB (cr_all rfl) (by rfl) Z_all (by decide +kernel) (pa_cons (pe_lc (own := [("to", 6)]) (g := gName 6) (tt := tYes) (by rfl) sc_is_ringless.nd (pi_list (pe_cal C_leads (hr.mono (by decide)) (by rfl) (pa_cons (pv 0) (pa_cons (pv 5) pa_nil)))) (blkOk_by (own := [("to", 6)]) (N := N_is_ringless) (sc := defScope s_is_ringless) (by decide +kernel)) (fun _ _ _ _ _ => (pg_name (i := 6) sc_is_ringless.nd rfl (Or.inl rfl))) (fun _ _ _ _ _ => pts_nil) (fun _ _ _ _ _ => by exact (pe_cmp (pc_din hu (pv 6) (pv 2))))) pa_nil)))
      (pss_one (ps_dput hu (pv 2) (pv 5) pe_bl rfl))
      (pss_one (ps_expr (pe_bm PySem.F.plainAttrs_list PySem.F.slot_list_append PySem.F.type_list_append mt_append (pv 4) (pa_cons (pv 5) pa_nil)))))))
      (pss_cons (ps_set (i := 3) sc_is_ringless.nd rfl (Or.inl rfl) (pe_cmpR op_lt (pe_callB call_lenA (by rfl) Z_len (by decide +kernel) (pa_cons (pv 4) pa_nil)) (pe_callB call_lenA (by rfl) Z_len (by decide +kernel) (pa_cons (pv 1) pa_nil)) (nomark _)))
      (pss_one (ps_set (i := 1) sc_is_ringless.nd rfl (Or.inl rfl) (pv 4)))))))
      (pss_one (ps_ret (pe_cmpR op_eq (pe_callB call_lenA (by rfl) Z_len (by decide +kernel) (pa_cons (pv 1) pa_nil)) pe_int (nomark _)))))))), ?_⟩
    walk_at "go"
    refine x_fld K_Work N1 ha hfn ?_
    walk_at "go"
    refine x_listT (SqT.of hn) fun l0 hl0 => ?_
    walk_at "go"
    intro st hst
    have nl0 : l0 ≠ st := ne_of_none upd_same hst
    have hst0 : H st = none := by rw [upd_ne nl0.symm] at hst; exact hst
    walk_at "go"
    refine lpWv (fun m σ H' => ∃ lA g rest name lf stl, σ = [some (.ref a), some (.ref lA), some (.ref st), some (.bl g), rest, name, none] ∧ L2.Same H H' ∧ H lA = none ∧ lA ≠ st ∧ H' lA = some (.lst (strsV lf)) ∧ H' st = some (.dK (strK V.bl stl)) ∧
      (∀ z ∈ lf, z ∈ ns) ∧ lf.length ≤ 100 ∧ stl.length + m * 100 ≤ 10100 ∧ ((g = true ∧ lf.length < m ∧ rlRun (leadOf tab) m lf stl = rlRun (leadOf tab) (ns.length + 1) ns []) ∨ (g = false ∧ lf = rlRun (leadOf tab) (ns.length + 1) ns []))) (m := ns.length + 1) ?_ ?_
    · refine ⟨l0, true, _, _, ns, [], rfl, same_upd (same_new hl0) hst0, hl0, nl0, by rw [upd_ne nl0]; exact upd_same, upd_same, fun z hz => hz, hlen, by simp; omega, .inl ⟨rfl, Nat.lt_succ_self _, rfl⟩⟩
    · rintro m σ H1 ⟨lA, g, rest, name, lf, stl, rfl, s1, hlA, nlA, h1l, h1s, hsub, hlf, hm, hcase⟩
      refine ⟨g, rfl, ?_⟩
      rcases hcase with ⟨rfl, hlt, hR⟩ | ⟨rfl, hR⟩
      · refine x_T ?_
        obtain ⟨m', rfl⟩ : ∃ k, m = k + 1 := ⟨m - 1, by omega⟩
        walk_at "go"
        refine ⟨sz_le (by simp), fun rA hrA => ?_⟩
        have nrl : lA ≠ rA := ne_of_none h1l hrA
        have nrs : st ≠ rA := ne_of_none h1s hrA
        have hrA0 := s1.free hrA
        walk_at "go"
        refine lpL (xs := strsV lf) (fun i σ H' => ∃ name, σ = [some (.ref a), some (.ref lA), some (.ref st), some (.bl true), some (.ref rA), name, none] ∧ L2.Same H H' ∧ H' lA = some (.lst (strsV lf)) ∧
          H' st = some (.dK (strK V.bl (rlPass (leadOf tab) (lf.take i) stl).1)) ∧ H' rA = some (.lst (strsV (rlPass (leadOf tab) (lf.take i) stl).2)) ∧ (rlPass (leadOf tab) (lf.take i) stl).1.length ≤ stl.length + i ∧ (rlPass (leadOf tab) (lf.take i) stl).2.length ≤ i ∧
          ∀ z ∈ (rlPass (leadOf tab) (lf.take i) stl).2, z ∈ ns) (SqL.of (by rw [upd_ne nrl]; exact h1l)) ?_ ?_ ?_ ?_
        · exact ⟨_, rfl, same_upd s1 hrA0, by rw [upd_ne nrl]; exact h1l, by rw [upd_ne nrs]; exact h1s, upd_same, by simp [rlPass], by simp [rlPass], by simp [rlPass]⟩
        · exact fun i σ H' _ ⟨_, _, _, h, _⟩ => SqL.of h
        · rintro i y σ H2 hy ⟨name, rfl, s2, h2l, h2s, h2r, b1, b2, b3⟩
          rw [List.getElem?_map] at hy
          cases hz : lf[i]? with
          | none => rw [hz] at hy; cases hy
          | some z =>
            rw [hz] at hy
            have ex : V.str z = y := Option.some.inj hy
            subst ex
            have hi : i < lf.length := (List.getElem?_eq_some_iff.mp hz).1
            have hzn : z ∈ ns := hsub z (List.mem_of_getElem? hz)
            obtain ⟨x, hx, hgx⟩ := hg z hzn
            have elead : leadOf tab z = leadsL x := by
              unfold leadOf
              rw [hx]
              rfl
            have estep : rlPass (leadOf tab) (lf.take (i + 1)) stl = rlStep (leadOf tab) (rlPass (leadOf tab) (lf.take i) stl) z := by
              unfold rlPass
              rw [take_succ_get hz, List.foldl_append]
              rfl
            rw [estep]
            generalize rlPass (leadOf tab) (lf.take i) stl = pp at h2s h2r b1 b2 b3 ⊢
            obtain ⟨p1, p2⟩ := pp
            walk_at "go"
            refine ⟨a, dx, t, fs, tab, z, x, h, nm, rfl, s2 _ _ ha, hft, hT.same s2, hx, hgx, fun H3 q3 s3 hq3 hq33 => runL (SqL.of hq33) fun D hD => ?_⟩
            have ll := leads_len hgx
            have nqD : q3 ≠ D := ne_of_none hq33 hD
            have hD2 := s3.free hD
            have h3s := s3 _ _ h2s
            have h3r := s3 _ _ h2r
            have h3l := s3 _ _ h2l
            refine lcL (xs := strsV (leadsL x)) (fun j H' => L2.Same H3 H' ∧ H' D = some (.lst ((((leadsL x).take j).map fun y => (p1.lookup y).isSome).map V.bl))) ?_ ?_ ?_ ?_
            · exact ⟨same_new hD, upd_same⟩
            · exact fun j H' _ h => SqL.of (h.1 _ _ hq33)
            · rintro j y H4 hy ⟨s4, hD4⟩
              rw [List.getElem?_map] at hy
              cases hw : (leadsL x)[j]? with
              | none => rw [hw] at hy; cases hy
              | some u =>
                rw [hw] at hy
                have ex : V.str u = y := Option.some.inj hy
                subst ex
                have hj : j < (leadsL x).length := (List.getElem?_eq_some_iff.mp hw).1
                walk_at "go"
                refine ⟨rfl, ?_⟩
                walk_at "go"
                refine x_inD (l := p1) (.inl (s4 _ _ h3s)) ?_
                refine ⟨_, hD4, sz_lt (by simp; omega), same_upd s4 hD, ?_⟩
                rw [upd_same, take_succ_get hw]
                simp
            · rintro H4 ⟨s4, hD4⟩
              rw [List.length_map, List.take_length] at hD4
              have s34 : L2.Same H2 H4 := s3.trans s4
              walk_at "go"
              refine ⟨D, _, rfl, SqL.of hD4, ?_⟩
              have eall : (List.map (fun y => (p1.lookup y).isSome) (leadsL x)).all id = (leadOf tab z).all fun t => (p1.lookup t).isSome := by
                rw [elead, List.all_map]
                rfl
              rw [eall]
              walk_at "go"
              refine x_ite (fun hall => ?_) (fun hall => ?_)
              · have e2 : rlStep (leadOf tab) (p1, p2) z = (putL p1 z true, p2) := if_pos hall
                rw [e2]
                walk_at "go"
                refine x_putL (s34 _ _ h2s) (by have : p1.length ≤ stl.length + i := b1; omega) rfl ?_
                walk_at "go"
                refine ⟨_, rfl, same_upd (s2.trans s34) hst0, by rw [upd_ne nlA]; exact s34 _ _ h2l, upd_same, by rw [upd_ne nrs.symm]; exact s34 _ _ h2r, ?_, Nat.le_succ_of_le b2, b3⟩
                have := putL_len p1 z true
                have b1' : p1.length ≤ stl.length + i := b1
                show (putL p1 z true).length ≤ stl.length + (i + 1)
                omega
              · have e2 : rlStep (leadOf tab) (p1, p2) z = (p1, p2 ++ [z]) := if_neg (by rw [hall]; exact Bool.false_ne_true)
                rw [e2]
                walk_at "go"
                refine x_tyL (SqL.of (s34 _ _ h2r)) ?_
                walk_at "go"
                refine x_app (s34 _ _ h2r) (sz_lt (by have : p2.length ≤ i := b2; simp; omega)) ?_
                walk_at "go"
                refine ⟨_, rfl, same_upd (s2.trans s34) hrA0, by rw [upd_ne nrl]; exact s34 _ _ h2l, by rw [upd_ne nrs]; exact s34 _ _ h2s, by rw [upd_same]; simp, Nat.le_succ_of_le b1, ?_, ?_⟩
                · have b2' : p2.length ≤ i := b2
                  show (p2 ++ [z]).length ≤ i + 1
                  simp
                  omega
                · intro u hu2
                  rcases List.mem_append.mp hu2 with hu2 | hu2
                  · exact b3 u hu2
                  · rw [List.mem_singleton.mp hu2]
                    exact hzn
        · rintro σ H2 ⟨name, rfl, s2, h2l, h2s, h2r, b1, b2, b3⟩
          rw [List.length_map, List.take_length] at h2s h2r b1 b2 b3
          walk_at "go"
          have hR2 : (if (rlPass (leadOf tab) lf stl).2.length < lf.length then rlRun (leadOf tab) m' (rlPass (leadOf tab) lf stl).2 (rlPass (leadOf tab) lf stl).1 else (rlPass (leadOf tab) lf stl).2) = rlRun (leadOf tab) (ns.length + 1) ns [] := hR
          generalize rlPass (leadOf tab) lf stl = pp at h2s h2r b1 b2 b3 hR2
          obtain ⟨p1, p2⟩ := pp
          have ed : decide (((strsV p2).length : Int) < ((strsV lf).length : Int)) = decide (p2.length < lf.length) := decide_eq_decide.mpr (by rw [List.length_map, List.length_map]; omega)
          refine ⟨m', Nat.lt_succ_self _, rA, _, _, _, p2, p1, rfl, s2, hrA0, nrs.symm, h2r, h2s, b3, by have b2' : p2.length ≤ lf.length := b2; omega, by have b1' : p1.length ≤ stl.length + lf.length := b1; omega, ?_⟩
          rw [ed]
          by_cases hlt2 : p2.length < lf.length
          · rw [if_pos hlt2] at hR2
            exact .inl ⟨decide_eq_true hlt2, by omega, hR2⟩
          · rw [if_neg hlt2] at hR2
            exact .inr ⟨decide_eq_false hlt2, hR2⟩
      · refine x_F ?_
        walk_at "go"
        have e : decide (((strsV lf).length : Int) = 0) = ringB tab ns := by
          unfold ringB
          rw [← hR]
          exact decide_eq_decide.mpr (by rw [List.length_map]; omega)
        rw [e]
        exact q _ s1
end
/-! ### a work as an object -/
def wkF (h : Int) (st : Str) (t n e : Addr) (r : Bool) : List (Str × V) := putF "ringless" (.bl r) (putF "ends" (.ref e) (putF "names" (.ref n) (putF "table" (.ref t) (putF "start" (.str st) (putF "hands" (.int h) [])))))
def isFin : Sd → Bool
  | .fin => true
  | _ => false
def finAt (tab : List (Str × Sd)) (z : Str) : Bool := ((tab.lookup z).map isFin).getD false
/-- the same stands, all in order -/
structure TabSort (l l' : List (Str × Sd)) : Prop where
  pm : (l'.map (·.1)).Perm (l.map (·.1))
  so : sortedS (l'.map (·.1)) = true
  sd : ∀ z x', l'.lookup z = some x' → ∃ x, l.lookup z = some x ∧ SdSort x x'
/-- a work stands at p, l its table -/
structure WorkAt (C : Addr) (H : Hp) (p : Addr) (h : Int) (st : Str) (l : List (Str × Sd)) : Prop where
  ex : ∃ dx t n e, H p = some (.ins C dx (wkF h st t n e (ringB l (l.map (·.1))))) ∧ DictOf SdAt H t l ∧ H n = some (.tup (strsV (l.map (·.1)))) ∧ H e = some (.tup (strsV ((l.map (·.1)).filter (finAt l))))
theorem WorkAt.same {C : Addr} {H H' : Hp} {p : Addr} {h : Int} {st : Str} {l : List (Str × Sd)} (w : WorkAt C H p h st l) (s : L2.Same H H') : WorkAt C H' p h st l := by
  obtain ⟨dx, t, n, e, h1, h2, h3, h4⟩ := w.ex
  exact ⟨dx, t, n, e, s _ _ h1, h2.same s, s _ _ h3, s _ _ h4⟩
theorem GoodSd.sort {h : Int} {ns : List Str} {x x' : Sd} (g : GoodSd h ns x) (s : SdSort x x') : GoodSd h ns x' := by
  cases x with
  | fin => cases x' with
    | fin => trivial
    | chance _ => cases s
    | hand _ _ => cases s
  | chance l => cases x' with
    | fin => cases s
    | hand _ _ => cases s
    | chance l' =>
      obtain ⟨g1, g2, g3, g4⟩ := g
      obtain ⟨p, _⟩ := s
      have e := p.length_eq
      exact ⟨(List.Perm.nodup_iff (p.map _)).mpr g1, by omega, by omega, fun q hq => g4 q (p.mem_iff.mp hq)⟩
  | hand k l => cases x' with
    | fin => cases s
    | chance _ => cases s
    | hand k' l' =>
      obtain ⟨g0, g1, g2, g3, g4, g5⟩ := g
      obtain ⟨rfl, p, _⟩ := s
      have e := p.length_eq
      exact ⟨g0, g1, (List.Perm.nodup_iff (p.map _)).mpr g2, by omega, by omega, fun q hq => g5 q (p.mem_iff.mp hq)⟩
theorem GoodSd.perm {h : Int} {ns ns' : List Str} {x : Sd} (g : GoodSd h ns x) (p : ∀ z ∈ ns, z ∈ ns') : GoodSd h ns' x := by
  cases x with
  | fin => trivial
  | chance l => exact ⟨g.1, g.2.1, g.2.2.1, fun q hq => ⟨(g.2.2.2 q hq).1, p _ (g.2.2.2 q hq).2.1, (g.2.2.2 q hq).2.2⟩⟩
  | hand k l => exact ⟨g.1, g.2.1, g.2.2.1, g.2.2.2.1, g.2.2.2.2.1, fun q hq => ⟨(g.2.2.2.2.2 q hq).1, p _ (g.2.2.2.2.2 q hq).2⟩⟩
theorem TabSort.good {h : Int} {l l' : List (Str × Sd)} (g : GoodT h l) (s : TabSort l l') : GoodT h l' where
  nd := (List.Perm.nodup_iff s.pm).mpr g.nd
  l1 := by
    have := s.pm.length_eq
    rw [List.length_map, List.length_map] at this
    have := g.l1
    omega
  l2 := by
    have := s.pm.length_eq
    rw [List.length_map, List.length_map] at this
    have := g.l2
    omega
  nm := fun z hz => g.nm z (s.pm.mem_iff.mp hz)
  sd := fun z x' hz => by
    obtain ⟨x, hx, hs⟩ := s.sd z x' hz
    exact ((g.sd z x hx).sort hs).perm fun z hz => s.pm.mem_iff.mpr hz
theorem pair_not_sd {H : Hp} {b : Addr} {v : Str × Int} {y : Sd} (h1 : PairAt H b v) (h2 : SdAt H b y) : False := by
  have e1 : H b = some (.tup [.str v.1, .int v.2]) := h1
  cases y with
  | fin =>
    rw [show H b = some (.tup [.str "end"]) from h2] at e1
    simp at e1
  | chance l =>
    obtain ⟨d, h3, _⟩ := h2
    rw [h3] at e1
    simp at e1
  | hand k l =>
    obtain ⟨d, h3, _⟩ := h2
    rw [h3] at e1
    simp at e1
theorem sd_wo {H : Hp} {D a : Addr} {x : Sd} {h : Int} {ns : List Str} (h1 : ∀ xs, H D ≠ some (.tup xs)) (h2 : ∀ l : List (Str × Str), l ≠ [] → H D ≠ some (.dK (strK V.str l))) (h3 : ∀ l : List (Str × (Str × Int)), l ≠ [] → ¬ DictOf PairAt H D l)
    (hx : SdAt H a x) (hg : GoodSd h ns x) : SdAt (wo H D) a x := by
  cases x with
  | fin =>
    have ha : H a = some (.tup [.str "end"]) := hx
    have n1 : a ≠ D := fun e => by rw [e] at ha; exact h1 _ ha
    show wo H D a = _
    rw [wo_ne n1]
    exact ha
  | chance l =>
    obtain ⟨d2, ha, hD⟩ := hx
    have hl : l ≠ [] := fun e => by
      rw [e] at hg
      exact absurd hg.2.1 (by decide)
    have n1 : a ≠ D := fun e => by rw [e] at ha; exact h1 _ ha
    have n2 : d2 ≠ D := fun e => by rw [e] at hD; exact h3 _ hl hD
    obtain ⟨m2, g1, g2, g3⟩ := hD.ex
    refine ⟨d2, by rw [wo_ne n1]; exact ha, ⟨m2, by rw [wo_ne n2]; exact g1, g2, fun z b hzb => ?_⟩⟩
    obtain ⟨y, hy, hp⟩ := g3 _ _ hzb
    have hp1 : H b = some (.tup [.str y.1, .int y.2]) := hp
    refine ⟨y, hy, ?_⟩
    have n3 : b ≠ D := fun e => by rw [e] at hp1; exact h1 _ hp1
    show wo H D b = _
    rw [wo_ne n3]
    exact hp1
  | hand k l =>
    obtain ⟨d2, ha, hd⟩ := hx
    have hl : l ≠ [] := fun e => by
      rw [e] at hg
      exact absurd hg.2.2.2.1 (by decide)
    have n1 : a ≠ D := fun e => by rw [e] at ha; exact h1 _ ha
    have n2 : d2 ≠ D := fun e => by rw [e] at hd; exact h2 _ hl hd
    exact ⟨d2, by rw [wo_ne n1]; exact ha, by rw [wo_ne n2]; exact hd⟩
/-- D is a table of stands or is to become one -/
theorem sd_woT {H : Hp} {D a : Addr} {x : Sd} {h : Int} {ns : List Str} {m : List (Str × Addr)} (hd : H D = some (.dK (strK V.ref m))) (hm : ∀ z b, (z, b) ∈ m → ∃ y, SdAt H b y) (hx : SdAt H a x) (hg : GoodSd h ns x) : SdAt (wo H D) a x := by
  refine sd_wo (fun xs e => ?_) (fun l hl e => ?_) (fun l hl hD => ?_) hx hg
  · rw [hd] at e
    cases e
  · rw [hd] at e
    have e1 := HO.dK.inj (Option.some.inj e)
    cases l with
    | nil => exact hl rfl
    | cons p r =>
      cases m with
      | nil => cases e1
      | cons p' r' =>
        have e2 : ((Sum.inr p'.1 : Key), V.ref p'.2) :: strK V.ref r' = ((Sum.inr p.1 : Key), V.str p.2) :: strK V.str r := e1
        injection e2 with e3 _
        injection e3 with _ e4
        cases e4
  · obtain ⟨m2, g1, g2, g3⟩ := hD.ex
    rw [hd] at g1
    have e1 := strK_inj (f := V.ref) (fun a b e => by cases e; rfl) (HO.dK.inj (Option.some.inj g1))
    subst e1
    cases m with
    | nil =>
      cases l with
      | nil => exact hl rfl
      | cons p r => cases g2
    | cons p r =>
      obtain ⟨v, _, hv⟩ := g3 p.1 p.2 List.mem_cons_self
      obtain ⟨y, hy⟩ := hm p.1 p.2 List.mem_cons_self
      exact pair_not_sd hv hy
theorem sd_woI {H : Hp} {D a C dx : Addr} {fs : List (Str × V)} {x : Sd} {h : Int} {ns : List Str} (hd : H D = some (.ins C dx fs)) (hx : SdAt H a x) (hg : GoodSd h ns x) : SdAt (wo H D) a x := by
  refine sd_wo (fun xs e => ?_) (fun l hl e => ?_) (fun l hl hD => ?_) hx hg
  · rw [hd] at e
    cases e
  · rw [hd] at e
    cases e
  · obtain ⟨m2, g1, _⟩ := hD.ex
    rw [hd] at g1
    cases g1
/-- a table without an object's place -/
theorem tab_woI {H : Hp} {D t C dx : Addr} {fs : List (Str × V)} {l : List (Str × Sd)} {h : Int} (hd : H D = some (.ins C dx fs)) (hT : DictOf SdAt H t l) (hg : ∀ z x, l.lookup z = some x → ∃ ns, GoodSd h ns x) : DictOf SdAt (wo H D) t l := by
  obtain ⟨m, h1, h2, h3⟩ := hT.ex
  have n1 : t ≠ D := ne_of h1 hd (by intro z; cases z)
  refine ⟨m, by rw [wo_ne n1]; exact h1, h2, fun z a hza => ?_⟩
  obtain ⟨x, hx, hs⟩ := h3 _ _ hza
  obtain ⟨ns, g⟩ := hg _ _ hx
  exact ⟨x, hx, sd_woI hd hs g⟩
def spWorkInit (C : Addr) : Sp := fun vs H Q _ => ∃ (s d dx : Addr) (h : Int) (st : Str) (l : List (Str × Sd)), vs = [.ref s, .int h, .str st, .ref d] ∧ H s = some (.ins C dx []) ∧ DictOf SdAt H d l ∧ GoodT h l ∧ 1 ≤ h ∧ h ≤ 4 ∧ st ∈ l.map (·.1) ∧
  ∀ H' l', (∀ b o, H b = some o → b ≠ s → H' b = some o) → TabSort l l' → WorkAt C H' s h st l' → Q .non H'
theorem lookup_snoc {α : Type} {l : List (Str × α)} {z y : Str} {x : α} (hz : z ∉ l.map (·.1)) : (l ++ [(z, x)]).lookup y = if y = z then some x else l.lookup y := by
  rw [List.lookup_append]
  by_cases e : y = z
  · subst e
    rw [if_pos rfl, lookup_none hz]
    simp
  · rw [if_neg e]
    cases hl : l.lookup y with
    | some v => rfl
    | none =>
      have e2 : (y == z) = false := by simpa using e
      simp [List.lookup, e2]
section
variable {P : Program} {w : World} {K : PySem.W.Frag} {mg : Str → Option Value} {base : Heap} {CW : Addr}
theorem ok_Work_init {f : Addr} {fd : FuncData} (F : Fun K "__init__" "Work.__init__" s_Work_init f fd) (K_Work : Cls K CW) (N1 : NoAttr K CW "hands") (N2 : NoAttr K CW "start") (N3 : NoAttr K CW "table") (N4 : NoAttr K CW "names") (N5 : NoAttr K CW "ends") (N6 : NoAttr K CW "ringless")
    (Z_sorted : mg "sorted" = none) (Z_tuple : mg "tuple" = none)
    (C_is_integer : Cal P w K mg base 1 "is_integer" ["thing"] (spIsInt K)) (C_is_name : Cal P w K mg base 1 "is_name" ["thing"] (spIsName K)) (C_are_stands : Cal P w K mg base 4 "are_stands" ["thing", "hands"] spAreStands)
    (C_copied : Cal P w K mg base 1 "copied" ["stand"] spCopied) (C_is_ringless : Cal P w K mg base 2 "is_ringless" ["work"] (spRingless CW)) : FnOk P w K mg base CX0 5 f fd ["self", "hands", "start", "stands"] (spWorkInit CW) := by
  refine F.ok sc_Work_init (fun vs H Q E h => ?_) (fun cdv A outer s H vs Q E hr h => ?_)
  · obtain ⟨_, _, _, _, _, _, rfl, _⟩ := h
    rfl
  · obtain ⟨a, d, dx, h, st, l, rfl, ha, hD, g, h1, h4, hst, k⟩ := h
    have hu := hu_of hr
    refine ⟨_, (pss_cons (ps_if (PW.pt (pw_or (pt_not (pt_val (pe_cal C_is_integer (hr.mono (by decide)) (by rfl) (pa_cons (pv 1) pa_nil)))) (pw_or1 (pt_not (pt_chain op_le op_le pe_int (pv 1) pe_int)))))
      (pss_one ps_never)
      pss_nil)
      (pss_cons (ps_if (pt_not (pt_val (pe_cal C_are_stands (hr.mono (by decide)) (by rfl) (pa_cons (pv 3) (pa_cons (pv 1) pa_nil)))))
      (pss_one ps_never)
      pss_nil)
      (pss_cons (ps_if (PW.pt (pw_or (pt_not (pt_val (pe_cal C_is_name (hr.mono (by decide)) (by rfl) (pa_cons (pv 2) pa_nil)))) (pw_or1 (pt_cmp (pc_dnotin hu (pv 2) (pv 3))))))
      (pss_one ps_never)
      pss_nil)
      (pss_cons (ps_fld (pv 0) (pv 1) rfl)
      (pss_cons (ps_fld (pv 0) (pv 2) rfl)
      (pss_cons (ps_fld (pv 0) (pe_dc (own := [("name", 4)]) (g := gName 4) (tt := tYes) (by rfl) sc_Work_init.nd (pi_list (pe_callB (call_sortedDA rfl) (by rfl) Z_sorted (by decide +kernel) (pa_cons (pv 3) pa_nil))) (blkOk_by (own := [("name", 4)]) (N := N_Work_init) (sc := defScope s_Work_init) (by decide +kernel)) (fun _ _ _ _ _ => (pg_name (i := 4) sc_Work_init.nd rfl (Or.inl rfl))) (fun _ _ _ _ _ => pts_nil) (fun _ _ _ _ _ => by exact (pv 4)) (fun _ _ _ _ _ => by exact (pe_cal C_copied (hr.mono (by decide)) (by rfl) (pa_cons (pe_dget hu (pv 3) (pv 4) (fun _ _ => rfl)) pa_nil)))) rfl)
      (pss_cons (ps_fld (pv 0) (pe_callTy call_tupleA (by rfl) Z_tuple (by decide +kernel) (pa_cons (pe_callB (call_sortedDA rfl) (by rfl) Z_sorted (by decide +kernel) (pa_cons (pv 3) pa_nil)) pa_nil)) rfl)
      (pss_cons (ps_fld (pv 0) (pe_callTy call_tupleA (by rfl) Z_tuple (by decide +kernel) (pa_cons (pe_lc (own := [("name", 4)]) (g := gName 4)  (by rfl) sc_Work_init.nd (pi_tup (pe_fld (pv 0) rfl)) (blkOk_by (own := [("name", 4)]) (N := N_Work_init) (sc := defScope s_Work_init) (by decide +kernel)) (fun _ _ _ _ _ => (pg_name (i := 4) sc_Work_init.nd rfl (Or.inl rfl))) (fun _ _ _ _ _ => by exact (pts_one (pt_cmpR op_eq (pe_ix (ix_tupK (K := K)) (pe_dget hu (pe_fldK (K := K) (pv 0) (by rfl)) (pv 4) (fun _ _ => rfl)) pe_int (fun _ _ => rfl)) pe_str (nomark _)))) (fun _ _ _ _ _ => by exact (pv 4))) pa_nil)) rfl)
      (pss_one (ps_fld (pv 0) (pe_cal C_is_ringless (hr.mono (by decide)) (by rfl) (pa_cons (pv 0) pa_nil)) rfl)))))))))), ?_⟩
    walk_at "go"
    refine ⟨_, _, rfl, .int _, ?_⟩
    walk_at "go"
    refine x_nT ?_
    walk_at "go"
    refine x_yes (by omega) ?_
    walk_at "go"
    refine x_nyes (by omega) ?_
    walk_at "go"
    refine ⟨d, h, l, rfl, hD, g, fun H1 s1 => ?_⟩
    walk_at "go"
    refine x_name (g.nm _ hst) ?_
    walk_at "go"
    have hD1 := hD.same s1
    obtain ⟨m, hd, hk, hp⟩ := id hD1.ex
    refine x_ninD (l := m) (.inl hd) ?_
    rw [keyIn (by rw [hk]; exact hst)]
    refine ⟨false, rfl, x_F ?_⟩
    walk_at "go"
    have ha1 := s1 _ _ ha
    have hD0 : DictOf SdAt (wo H1 a) d l := tab_woI ha1 hD1 fun z x hz => ⟨_, g.sd z x hz⟩
    refine x_sf K_Work N1 ha1 (by decide) ?_
    walk_at "go"
    refine x_sf K_Work N2 upd_same (len_put (show ([] : List (Str × V)).length < 999 by decide)) ?_
    rw [upd_upd]
    walk_at "go"
    have sA : L2.Same (wo H1 a) (upd H1 a (.ins CW dx (putF "start" (.str st) (putF "hands" (.int h) [])))) := same_wo (L2.Same.refl _)
    have hA : upd H1 a (.ins CW dx (putF "start" (.str st) (putF "hands" (.int h) []))) a = some (.ins CW dx (putF "start" (.str st) (putF "hands" (.int h) []))) := upd_same
    generalize upd H1 a (.ins CW dx (putF "start" (.str st) (putF "hands" (.int h) []))) = H2 at sA hA ⊢
    have hD2 := hD0.same sA
    obtain ⟨m, hd, hk, hp⟩ := id hD2.ex
    have ek : (strK V.ref m).map (·.1) = (m.map (·.1)).map Sum.inr := by rw [List.map_map, List.map_map]; rfl
    have g2 := g.l2
    have hml : m.length = l.length := by
      have := congrArg List.length hk
      rwa [List.length_map, List.length_map] at this
    refine ⟨d, _, m.map (·.1), rfl, .inl hd, ek, by rw [List.length_map]; omega, fun ys q hperm hsort hq => runL (SqL.of upd_same) fun D hD => ?_⟩
    rw [hk] at hperm
    have hqD : q ≠ D := ne_of_none upd_same hD
    have hDn : H2 D = none := by rw [upd_ne hqD.symm] at hD; exact hD
    have ynd : ys.Nodup := (hperm.nodup_iff).mpr g.nd
    have ylen : ys.length = l.length := by rw [hperm.length_eq, List.length_map]
    refine dcL (xs := ys.map V.str) (fun i H' => L2.Same H2 H' ∧ H' q = some (.lst (ys.map V.str)) ∧ ∃ (l' : List (Str × Sd)) (m' : List (Str × Addr)), H' D = some (.dK (strK V.ref m')) ∧ m'.map (·.1) = ys.take i ∧ l'.map (·.1) = ys.take i ∧
      (∀ z b, (z, b) ∈ m' → ∃ x', l'.lookup z = some x' ∧ SdAt (wo H' D) b x') ∧ ∀ z x', l'.lookup z = some x' → ∃ x, l.lookup z = some x ∧ SdSort x x') ?_ ?_ ?_ ?_
    · exact ⟨same_upd (same_new hq) hDn, by rw [upd_ne hqD]; exact upd_same, [], [], upd_same, by simp, by simp, by simp, by simp⟩
    · exact fun t H' _ h => SqL.of h.2.1
    · rintro i y H3 hy ⟨s3, hq3, l', m', hD3, km, kl, hm3, hs3⟩
      rw [List.getElem?_map] at hy
      cases hz : ys[i]? with
      | none => rw [hz] at hy; cases hy
      | some z =>
        rw [hz] at hy
        have ex : V.str z = y := Option.some.inj hy
        subst ex
        have hi : i < ys.length := (List.getElem?_eq_some_iff.mp hz).1
        have hzl : z ∈ l.map (·.1) := hperm.mem_iff.mp (List.mem_of_getElem? hz)
        have hzt : z ∉ ys.take i := fun hm => by
          obtain ⟨j, hj, he⟩ := List.getElem_of_mem hm
          have hj2 : j < i := by simp at hj; omega
          have h5 : ys[j]? = some z := by
            rw [List.getElem_take] at he
            rw [List.getElem?_eq_getElem (by omega), he]
          have := L2.nd_ix ynd h5 hz
          omega
        obtain ⟨x, hx⟩ := lookup_isSome hzl
        obtain ⟨m2, b, hd2, hb, hbx⟩ := hD2.at hx
        have gx := g.sd z x hx
        walk_at "go"
        refine ⟨rfl, ?_⟩
        walk_at "go"
        refine x_getL (l := m2) (.inl (s3 _ _ hd2)) hb ?_
        walk_at "go"
        refine ⟨b, x, h, _, rfl, hbx.same s3, gx, fun H4 p x' s4 hp4 hpx hsx => ?_⟩
        have hD4 := s4 _ _ hD3
        have hm4 : ∀ z b, (z, b) ∈ m' → ∃ y, SdAt H4 b y := fun z b hzb => by
          obtain ⟨y, _, hy⟩ := hm3 _ _ hzb
          exact ⟨y, hy.same (wo_same.trans s4)⟩
        refine ⟨_, Sum.inr z, rfl, hD4, sz_lt (by rw [List.length_map]; have := congrArg List.length km; simp at this; omega), same_upd (s3.trans s4) hDn, by rw [upd_ne hqD]; exact s4 _ _ hq3, l' ++ [(z, x')], m' ++ [(z, p)], ?_, ?_, ?_, ?_, ?_⟩
        · rw [upd_same, strK_put, putL_new]
          rw [km]
          exact hzt
        · rw [List.map_append, km, take_succ_get hz]
          rfl
        · rw [List.map_append, kl, take_succ_get hz]
          rfl
        · intro y c hyc
          rw [wo_upd]
          rw [lookup_snoc (by rw [kl]; exact hzt)]
          rcases List.mem_append.mp hyc with hyc1 | hyc1
          · have hne : y ≠ z := fun e => by
              subst e
              exact hzt (by rw [← km]; exact List.mem_map.mpr ⟨_, hyc1, rfl⟩)
            obtain ⟨v, hv, hv2⟩ := hm3 _ _ hyc1
            rw [if_neg hne]
            exact ⟨v, hv, hv2.same (wo_mono s4)⟩
          · have e := List.mem_singleton.mp hyc1
            injection e with e1 e2
            subst e1 e2
            rw [if_pos rfl]
            exact ⟨x', rfl, sd_woT hD4 hm4 hpx (gx.sort hsx)⟩
        · intro y v hv
          rw [lookup_snoc (by rw [kl]; exact hzt)] at hv
          by_cases e : y = z
          · subst e
            rw [if_pos rfl] at hv
            cases hv
            exact ⟨x, hx, hsx⟩
          · rw [if_neg e] at hv
            exact hs3 y v hv
    · rintro H3 ⟨s3, hq3, l', m', hD3, km, kl, hm3, hs3⟩
      rw [List.length_map, List.take_length] at km kl
      have T : TabSort l l' := ⟨by rw [kl]; exact hperm, by rw [kl]; exact hsort, hs3⟩
      have g' := T.good g
      have hT3 : DictOf SdAt H3 D l' := ⟨m', hD3, by rw [km, kl], fun z b hzb => by
        obtain ⟨v, hv, hv2⟩ := hm3 _ _ hzb
        exact ⟨v, hv, hv2.same wo_same⟩⟩
      have ha3 := s3 _ _ hA
      have hT3w : DictOf SdAt (wo H3 a) D l' := tab_woI ha3 hT3 fun z x hz => ⟨_, g'.sd z x hz⟩
      walk_at "go"
      refine x_sf K_Work N3 ha3 (len_put (len_put (show ([] : List (Str × V)).length < 998 by decide))) ?_
      have sB : L2.Same (wo H3 a) (upd H3 a (.ins CW dx (putF "table" (.ref D) (putF "start" (.str st) (putF "hands" (.int h) []))))) := same_wo (L2.Same.refl _)
      have hB : upd H3 a (.ins CW dx (putF "table" (.ref D) (putF "start" (.str st) (putF "hands" (.int h) [])))) a = some (.ins CW dx (putF "table" (.ref D) (putF "start" (.str st) (putF "hands" (.int h) [])))) := upd_same
      generalize upd H3 a (.ins CW dx (putF "table" (.ref D) (putF "start" (.str st) (putF "hands" (.int h) [])))) = H4 at sB hB ⊢
      have hd4 : H4 d = some (.dK (strK V.ref m)) := by
        have nda : d ≠ a := ne_of (s3 _ _ hd) ha3 (by intro z; cases z)
        exact sB _ _ (by rw [wo_ne nda]; exact s3 _ _ hd)
      walk_at "go"
      refine ⟨d, _, m.map (·.1), rfl, .inl hd4, ek, by rw [List.length_map]; omega, fun ys2 q2 hperm2 hsort2 hq2 => ?_⟩
      rw [hk] at hperm2
      have ey : ys2 = ys := sorted_one hsort2 hsort (hperm2.trans hperm.symm)
      rw [ey]
      walk_at "go"
      refine x_tupL (SqL.of upd_same) fun nA hnA => ?_
      have hq2A : q2 ≠ nA := ne_of_none upd_same hnA
      have hnA0 : H4 nA = none := by rw [upd_ne hq2A.symm] at hnA; exact hnA
      have sC : L2.Same H4 (upd (upd H4 q2 (.lst (ys.map V.str))) nA (.tup (ys.map V.str))) := same_upd (same_new hq2) hnA0
      have hC : (upd (upd H4 q2 (.lst (ys.map V.str))) nA (.tup (ys.map V.str))) nA = some (.tup (ys.map V.str)) := upd_same
      generalize upd (upd H4 q2 (.lst (ys.map V.str))) nA (.tup (ys.map V.str)) = H5 at sC hC ⊢
      walk_at "go"
      refine x_sf K_Work N4 (sC _ _ hB) (len_put (len_put (len_put (show ([] : List (Str × V)).length < 997 by decide)))) ?_
      have ha5 := sC _ _ hB
      have nAa : nA ≠ a := ne_of hC ha5 (by intro z; cases z)
      have sD : L2.Same (wo H3 a) (upd H5 a (.ins CW dx (putF "names" (.ref nA) (putF "table" (.ref D) (putF "start" (.str st) (putF "hands" (.int h) [])))))) := same_upd (sB.trans sC) wo_at
      have hDD : upd H5 a (.ins CW dx (putF "names" (.ref nA) (putF "table" (.ref D) (putF "start" (.str st) (putF "hands" (.int h) []))))) a = some (.ins CW dx (putF "names" (.ref nA) (putF "table" (.ref D) (putF "start" (.str st) (putF "hands" (.int h) []))))) := upd_same
      have hN6 : upd H5 a (.ins CW dx (putF "names" (.ref nA) (putF "table" (.ref D) (putF "start" (.str st) (putF "hands" (.int h) []))))) nA = some (.tup (ys.map V.str)) := by rw [upd_ne nAa]; exact hC
      generalize upd H5 a (.ins CW dx (putF "names" (.ref nA) (putF "table" (.ref D) (putF "start" (.str st) (putF "hands" (.int h) []))))) = H6 at sD hDD hN6 ⊢
      have hT6 := hT3w.same sD
      walk_at "go"
      have lkT : ∀ (fs : List (Str × V)), (putF "names" (.ref nA) (putF "table" (.ref D) fs)).lookup ("table" : Str) = some (.ref D) := fun fs => by
        rw [lookup_putF, if_neg (by decide +kernel), lookup_putF, if_pos rfl]
      have lkN : ∀ (fs : List (Str × V)), (putF "names" (.ref nA) fs).lookup ("names" : Str) = some (.ref nA) := fun fs => by
        rw [lookup_putF, if_pos rfl]
      refine x_fld K_Work N4 hDD (lkN _) ?_
      refine runT (SqT.of hN6) ?_
      intro E1 hE1
      refine lcT (xs := ys.map V.str) (fun i H' => L2.Same H6 H' ∧ H' E1 = some (.lst (((ys.take i).filter (finAt l')).map V.str))) ?_ ?_ ?_ ?_
      · exact ⟨same_new hE1, upd_same⟩
      · exact fun i H' _ h => SqT.of (h.1 _ _ hN6)
      · rintro i y H7 hy ⟨s7, hE7⟩
        rw [List.getElem?_map] at hy
        cases hz : ys[i]? with
        | none => rw [hz] at hy; cases hy
        | some z =>
          rw [hz] at hy
          have ex : V.str z = y := Option.some.inj hy
          subst ex
          have hi : i < ys.length := (List.getElem?_eq_some_iff.mp hz).1
          obtain ⟨x', hx'⟩ := lookup_isSome (l := l') (z := z) (by rw [kl]; exact List.mem_of_getElem? hz)
          obtain ⟨m2, b, hd2, hb, hbx⟩ := (hT6.same s7).at hx'
          have efin : finAt l' z = isFin x' := by
            unfold finAt
            rw [hx']
            rfl
          have efil : (ys.take (i + 1)).filter (finAt l') = (ys.take i).filter (finAt l') ++ (if isFin x' = true then [z] else []) := by
            rw [take_succ_get hz, List.filter_append]
            congr 1
            rw [List.filter_cons, efin]
            rfl
          have llen : ((ys.take i).filter (finAt l')).length ≤ 100 := Nat.le_trans (List.length_filter_le _ _) (by rw [List.length_take]; omega)
          rw [efil]
          walk_at "go"
          refine ⟨rfl, ?_⟩
          walk_at "go"
          refine x_fld K_Work N3 (s7 _ _ hDD) (lkT _) ?_
          walk_at "go"
          refine x_getL (l := m2) (.inl hd2) hb ?_
          walk_at "go"
          cases x' with
          | fin =>
            have hb1 : H7 b = some (.tup [.str "end"]) := hbx
            refine x_ixt 0 (SqT.of hb1) rfl rfl ?_
            walk_at "go"
            refine x_yes rfl ?_
            walk_at "go"
            refine ⟨_, hE7, sz_lt (by rw [List.length_map]; omega), same_upd s7 hE1, ?_⟩
            rw [upd_same]
            simp [isFin]
          | chance l2 =>
            obtain ⟨d2, hb1, _⟩ := hbx
            refine x_ixt 0 (SqT.of hb1) rfl rfl ?_
            walk_at "go"
            refine x_no (by decide +kernel) ?_
            refine ⟨s7, ?_⟩
            rw [hE7]
            simp [isFin]
          | hand k2 l2 =>
            obtain ⟨d2, hb1, _⟩ := hbx
            refine x_ixt 0 (SqT.of hb1) rfl rfl ?_
            walk_at "go"
            refine x_no (by decide +kernel) ?_
            refine ⟨s7, ?_⟩
            rw [hE7]
            simp [isFin]
      · rintro H7 ⟨s7, hE7⟩
        rw [List.length_map, List.take_length] at hE7
        walk_at "go"
        refine x_tupL (SqL.of hE7) fun eA heA => ?_
        have s8 : L2.Same H6 (upd H7 eA (.tup ((ys.filter (finAt l')).map V.str))) := s7.trans (same_new heA)
        have hE8 : (upd H7 eA (.tup ((ys.filter (finAt l')).map V.str))) eA = some (.tup ((ys.filter (finAt l')).map V.str)) := upd_same
        generalize upd H7 eA (.tup ((ys.filter (finAt l')).map V.str)) = H8 at s8 hE8 ⊢
        walk_at "go"
        refine x_sf K_Work N5 (s8 _ _ hDD) (len_put (len_put (len_put (len_put (show ([] : List (Str × V)).length < 996 by decide))))) ?_
        have ha8 := s8 _ _ hDD
        have eAa : eA ≠ a := ne_of hE8 ha8 (by intro z; cases z)
        have sE : L2.Same (wo H6 a) (upd H8 a (.ins CW dx (putF "ends" (.ref eA) (putF "names" (.ref nA) (putF "table" (.ref D) (putF "start" (.str st) (putF "hands" (.int h) []))))))) := same_wo s8
        have hE9 : upd H8 a (.ins CW dx (putF "ends" (.ref eA) (putF "names" (.ref nA) (putF "table" (.ref D) (putF "start" (.str st) (putF "hands" (.int h) [])))))) eA = some (.tup ((ys.filter (finAt l')).map V.str)) := by rw [upd_ne eAa]; exact hE8
        have hD9 : upd H8 a (.ins CW dx (putF "ends" (.ref eA) (putF "names" (.ref nA) (putF "table" (.ref D) (putF "start" (.str st) (putF "hands" (.int h) [])))))) a = some (.ins CW dx (putF "ends" (.ref eA) (putF "names" (.ref nA) (putF "table" (.ref D) (putF "start" (.str st) (putF "hands" (.int h) [])))))) := upd_same
        generalize upd H8 a (.ins CW dx (putF "ends" (.ref eA) (putF "names" (.ref nA) (putF "table" (.ref D) (putF "start" (.str st) (putF "hands" (.int h) [])))))) = H9 at sE hE9 hD9 ⊢
        have hT6w : DictOf SdAt (wo H6 a) D l' := tab_woI hDD hT6 fun z x hz => ⟨_, g'.sd z x hz⟩
        have hN9 : H9 nA = some (.tup (ys.map V.str)) := sE _ _ (by rw [wo_ne nAa]; exact hN6)
        walk_at "go"
        refine ⟨a, dx, D, nA, _, l', ys, h, l'.map (·.1), rfl, hD9, by rw [lookup_putF, if_neg (by decide +kernel)]; exact lkT _, by rw [lookup_putF, if_neg (by decide +kernel)]; exact lkN _, hT6w.same sE, hN9, by omega, fun z hz => ?_, fun H10 s10 => ?_⟩
        · obtain ⟨x, hx⟩ := lookup_isSome (l := l') (z := z) (by rw [kl]; exact hz)
          exact ⟨x, hx, g'.sd z x hx⟩
        walk_at "go"
        refine x_sf K_Work N6 (s10 _ _ hD9) (len_put (len_put (len_put (len_put (len_put (show ([] : List (Str × V)).length < 995 by decide)))))) ?_
        have sF : L2.Same (wo H9 a) (upd H10 a (.ins CW dx (wkF h st D nA eA (ringB l' ys)))) := same_wo s10
        refine k _ l' (fun b o e n => ?_) T ⟨⟨dx, D, nA, eA, ?_, ?_, ?_, ?_⟩⟩
        · have e1 : wo H1 a b = some o := by rw [wo_ne n]; exact s1 _ _ e
          have e2 := s3 _ _ (sA _ _ e1)
          have e3 : H6 b = some o := sD _ _ (by rw [wo_ne n]; exact e2)
          have e4 : H9 b = some o := sE _ _ (by rw [wo_ne n]; exact e3)
          exact sF _ _ (by rw [wo_ne n]; exact e4)
        · rw [kl]
          exact upd_same
        · exact (tab_woI hD9 (hT6w.same sE) fun z x hz => ⟨_, g'.sd z x hz⟩).same sF
        · rw [kl]
          exact sF _ _ (by rw [wo_ne nAa]; exact hN9)
        · rw [kl]
          exact sF _ _ (by rw [wo_ne eAa]; exact hE9)
end
def kindS : Sd → Str
  | .fin => "end"
  | .chance _ => "chance"
  | .hand _ _ => "hand"
theorem sd_tup {H : Hp} {a : Addr} {x : Sd} (h : SdAt H a x) : ∃ xs, H a = some (.tup xs) ∧ xs[0]? = some (.str (kindS x)) := by
  cases x with
  | fin => exact ⟨_, h, rfl⟩
  | chance l =>
    obtain ⟨d, h1, _⟩ := h
    exact ⟨_, h1, rfl⟩
  | hand k l =>
    obtain ⟨d, h1, _⟩ := h
    exact ⟨_, h1, rfl⟩
theorem kind_fin (x : Sd) : decide (kindS x = "end") = isFin x := by
  cases x with
  | fin => rfl
  | chance l => exact decide_eq_false (by show ¬ (("chance" : Str) = "end"); decide +kernel)
  | hand k l => exact decide_eq_false (by show ¬ (("hand" : Str) = "end"); decide +kernel)
/-! ### a drawn world -/
/-- a dict that is being built: what stands in it does not lean on the dict itself -/
structure DictW {α : Type} (R : Hp → Addr → α → Prop) (H : Hp) (d : Addr) (l : List (Str × α)) : Prop where
  ex : ∃ m : List (Str × Addr), H d = some (.dK (strK V.ref m)) ∧ m.map (·.1) = l.map (·.1) ∧ ∀ z a, (z, a) ∈ m → ∃ x, l.lookup z = some x ∧ R (wo H d) a x
def Mono {α : Type} (R : Hp → Addr → α → Prop) : Prop := ∀ H H' a x, L2.Same H H' → R H a x → R H' a x
theorem monoP : Mono PairAt := fun _ _ _ _ s h => s _ _ h
theorem monoS : Mono SdAt := fun _ _ _ _ s h => h.same s
section
variable {α : Type} {R : Hp → Addr → α → Prop} {H H' : Hp} {d p : Addr} {l : List (Str × α)}
theorem DictW.of (M : Mono R) (h : DictW R H d l) : DictOf R H d l := by
  obtain ⟨m, h1, h2, h3⟩ := h.ex
  refine ⟨m, h1, h2, fun z a hza => ?_⟩
  obtain ⟨x, e, r⟩ := h3 z a hza
  exact ⟨x, e, M _ _ _ _ wo_same r⟩
theorem DictW.same (M : Mono R) (h : DictW R H d l) (s : L2.Same H H') : DictW R H' d l := by
  obtain ⟨m, h1, h2, h3⟩ := h.ex
  refine ⟨m, s _ _ h1, h2, fun z a hza => ?_⟩
  obtain ⟨x, e, r⟩ := h3 z a hza
  exact ⟨x, e, M _ _ _ _ (wo_mono s) r⟩
theorem DictW.nil (h : H d = some (.dK [])) : DictW R H d [] := ⟨[], h, rfl, fun z a hza => by cases hza⟩
theorem DictW.put {m : List (Str × Addr)} (h2 : m.map (·.1) = l.map (·.1)) (h3 : ∀ z a, (z, a) ∈ m → ∃ x, l.lookup z = some x ∧ R (wo H d) a x) {z : Str} {x : α} (hp : R (wo H d) p x) :
    DictW R (upd H d (.dK (strK V.ref (putL m z p)))) d (putL l z x) := by
  refine ⟨putL m z p, upd_same, putL_keys2 h2 z x p, fun y a hya => ?_⟩
  rw [wo_upd, lookup_putL]
  rcases putL_mem hya with e | ⟨hya, hn⟩
  · injection e with e1 e2
    subst e1 e2
    rw [if_pos rfl]
    exact ⟨x, rfl, hp⟩
  · rw [if_neg hn]
    exact h3 y a hya
end
theorem none_of_but {H H' : Hp} {p a : Addr} (b : But p H H') (h : H' a = none) (n : a ≠ p) : H a = none := by
  cases e : H a with
  | none => rfl
  | some o => rw [b a o e n] at h; cases h
theorem sd_frz {H : Hp} {D a : Addr} {o : Obj} {v u : HO} {x : Sd} {h : Int} {ns : List Str} (hd : H D = some (.frz o v)) (hx : SdAt H a x) (hg : GoodSd h ns x) : SdAt (upd H D u) a x := by
  refine (sd_wo (D := D) (fun xs e => ?_) (fun l hl e => ?_) (fun l hl hD => ?_) hx hg).same (same_wo (L2.Same.refl _))
  · rw [hd] at e
    cases e
  · rw [hd] at e
    cases e
  · obtain ⟨m2, g1, _⟩ := hD.ex
    rw [hd] at g1
    cases g1
/-! ### a table of stands, held or not -/
/-- a table of stands, held while it is walked or not -/
structure TabRd (H : Hp) (D : Addr) (l : List (Str × Sd)) : Prop where
  ex : ∃ m : List (Str × Addr), Rd H D (.dK (strK V.ref m)) ∧ m.map (·.1) = l.map (·.1) ∧ ∀ z a, (z, a) ∈ m → ∃ x, l.lookup z = some x ∧ SdAt H a x
theorem TabRd.of {H : Hp} {D : Addr} {l : List (Str × Sd)} (h : DictOf SdAt H D l) : TabRd H D l := by
  obtain ⟨m, h1, h2, h3⟩ := h.ex
  exact ⟨m, .inl h1, h2, h3⟩
theorem TabRd.same {H H' : Hp} {D : Addr} {l : List (Str × Sd)} (h : TabRd H D l) (s : L2.Same H H') : TabRd H' D l := by
  obtain ⟨m, h1, h2, h3⟩ := h.ex
  exact ⟨m, same_rd s h1, h2, fun z a hza => by
    obtain ⟨x, hx, r⟩ := h3 z a hza
    exact ⟨x, hx, r.same s⟩⟩
theorem TabRd.at {H : Hp} {D : Addr} {l : List (Str × Sd)} (h : TabRd H D l) {z : Str} {x : Sd} (e : l.lookup z = some x) : ∃ (m : List (Str × Addr)) (a : Addr), Rd H D (.dK (strK V.ref m)) ∧ m.lookup z = some a ∧ SdAt H a x := by
  obtain ⟨m, h1, h2, h3⟩ := h.ex
  have hz : z ∈ m.map (·.1) := by
    rw [h2]
    exact List.mem_map.mpr ⟨_, lookup_mem e, rfl⟩
  obtain ⟨a, ha⟩ := lookup_isSome hz
  obtain ⟨y, hy, r⟩ := h3 _ _ (lookup_mem ha)
  rw [e] at hy
  cases hy
  exact ⟨m, a, h1, ha, r⟩
theorem TabRd.held {H : Hp} {D : Addr} {l : List (Str × Sd)} {m : List (Str × Addr)} {o : Obj} {h : Int} {ns : List Str} (hd : H D = some (.dK (strK V.ref m))) (hk : m.map (·.1) = l.map (·.1)) (hm : ∀ z a, (z, a) ∈ m → ∃ x, l.lookup z = some x ∧ SdAt H a x) (hg : ∀ z x, l.lookup z = some x → GoodSd h ns x) :
    TabRd (upd H D (.frz o (.dK (strK V.ref m)))) D l := ⟨m, .inr ⟨o, upd_same⟩, hk, fun z a hza => by
  obtain ⟨x, hx, r⟩ := hm z a hza
  exact ⟨x, hx, sd_held hd hza r (hg z x hx)⟩⟩
/-! ### what a work tells of its stands -/
theorem wkF_none {h : Int} {st : Str} {t n e : Addr} {r : Bool} {m : Str} (h1 : m ≠ "ringless") (h2 : m ≠ "ends") (h3 : m ≠ "names") (h4 : m ≠ "table") (h5 : m ≠ "start") (h6 : m ≠ "hands") : (wkF h st t n e r).lookup m = none := by
  unfold wkF
  rw [lookup_putF, if_neg h1, lookup_putF, if_neg h2, lookup_putF, if_neg h3, lookup_putF, if_neg h4, lookup_putF, if_neg h5, lookup_putF, if_neg h6]
  rfl
theorem wkF_table {h : Int} {st : Str} {t n e : Addr} {r : Bool} : (wkF h st t n e r).lookup ("table" : Str) = some (.ref t) := by
  unfold wkF
  rw [lookup_putF, if_neg (by decide +kernel), lookup_putF, if_neg (by decide +kernel), lookup_putF, if_neg (by decide +kernel), lookup_putF, if_pos rfl]
theorem wkF_start {h : Int} {st : Str} {t n e : Addr} {r : Bool} : (wkF h st t n e r).lookup ("start" : Str) = some (.str st) := by
  unfold wkF
  rw [lookup_putF, if_neg (by decide +kernel), lookup_putF, if_neg (by decide +kernel), lookup_putF, if_neg (by decide +kernel), lookup_putF, if_neg (by decide +kernel), lookup_putF, if_pos rfl]
theorem wkF_hands {h : Int} {st : Str} {t n e : Addr} {r : Bool} : (wkF h st t n e r).lookup ("hands" : Str) = some (.int h) := by
  unfold wkF
  rw [lookup_putF, if_neg (by decide +kernel), lookup_putF, if_neg (by decide +kernel), lookup_putF, if_neg (by decide +kernel), lookup_putF, if_neg (by decide +kernel), lookup_putF, if_neg (by decide +kernel), lookup_putF, if_pos rfl]
def moverV : Sd → V
  | .hand k _ => .int k
  | _ => .non
def stepsL : Sd → List Str
  | .fin => []
  | .chance l => l.map (·.1)
  | .hand _ l => l.map (·.1)
def toS : Sd → Str → Option Str
  | .fin, _ => none
  | .chance l, z => (l.lookup z).map (·.1)
  | .hand _ l, z => l.lookup z
def SrtSd (x : Sd) : Prop := sortedS (stepsL x) = true
theorem toS_mem {x : Sd} {z t : Str} (h : toS x z = some t) : z ∈ stepsL x := by
  cases x with
  | fin => cases h
  | chance l =>
    show z ∈ l.map (·.1)
    have h1 : (l.lookup z).map (·.1) = some t := h
    cases e : l.lookup z with
    | none => rw [e] at h1; cases h1
    | some q => exact List.mem_map.mpr ⟨_, lookup_mem e, rfl⟩
  | hand k l => exact List.mem_map.mpr ⟨_, lookup_mem (show l.lookup z = some t from h), rfl⟩
theorem toS_some {x : Sd} {z : Str} (h : z ∈ stepsL x) : ∃ t, toS x z = some t := by
  cases x with
  | fin => cases h
  | chance l =>
    obtain ⟨q, hq⟩ := lookup_isSome (l := l) (z := z) h
    exact ⟨q.1, by show (l.lookup z).map (·.1) = _; rw [hq]; rfl⟩
  | hand k l => exact lookup_isSome (l := l) h
/-- a work that is read; its table may be held -/
structure WorkRd (C : Addr) (H : Hp) (p : Addr) (h : Int) (st : Str) (l : List (Str × Sd)) : Prop where
  ex : ∃ dx t n e, H p = some (.ins C dx (wkF h st t n e (ringB l (l.map (·.1))))) ∧ TabRd H t l ∧ H n = some (.tup (strsV (l.map (·.1)))) ∧ H e = some (.tup (strsV ((l.map (·.1)).filter (finAt l))))
theorem WorkAt.rd {C : Addr} {H : Hp} {p : Addr} {h : Int} {st : Str} {l : List (Str × Sd)} (w : WorkAt C H p h st l) : WorkRd C H p h st l := by
  obtain ⟨dx, t, n, e, h1, h2, h3, h4⟩ := w.ex
  exact ⟨dx, t, n, e, h1, .of h2, h3, h4⟩
instance {C : Addr} {H : Hp} {p : Addr} {h : Int} {st : Str} {l : List (Str × Sd)} : Coe (WorkAt C H p h st l) (WorkRd C H p h st l) := ⟨WorkAt.rd⟩
theorem WorkRd.same {C : Addr} {H H' : Hp} {p : Addr} {h : Int} {st : Str} {l : List (Str × Sd)} (w : WorkRd C H p h st l) (s : L2.Same H H') : WorkRd C H' p h st l := by
  obtain ⟨dx, t, n, e, h1, h2, h3, h4⟩ := w.ex
  exact ⟨dx, t, n, e, s _ _ h1, h2.same s, s _ _ h3, s _ _ h4⟩
def spRow (C : Addr) : Sp := fun vs H Q _ => ∃ (a : Addr) (h : Int) (st z : Str) (l : List (Str × Sd)) (x : Sd), vs = [.ref a, .str z] ∧ WorkRd C H a h st l ∧ l.lookup z = some x ∧ ∀ b, SdAt H b x → Q (.ref b) H
def spKind (C : Addr) : Sp := fun vs H Q _ => ∃ (a : Addr) (h : Int) (st z : Str) (l : List (Str × Sd)) (x : Sd), vs = [.ref a, .str z] ∧ WorkRd C H a h st l ∧ l.lookup z = some x ∧ Q (.str (kindS x)) H
def spMover (C : Addr) : Sp := fun vs H Q _ => ∃ (a : Addr) (h : Int) (st z : Str) (l : List (Str × Sd)) (x : Sd), vs = [.ref a, .str z] ∧ WorkRd C H a h st l ∧ l.lookup z = some x ∧ Q (moverV x) H
def spSteps (C : Addr) : Sp := fun vs H Q _ => ∃ (a : Addr) (h : Int) (st z : Str) (l : List (Str × Sd)) (x : Sd), vs = [.ref a, .str z] ∧ WorkRd C H a h st l ∧ l.lookup z = some x ∧ GoodSd h (l.map (·.1)) x ∧ SrtSd x ∧
  ∀ H' p, L2.Same H H' → H p = none → H' p = some (.lst (strsV (stepsL x))) → Q (.ref p) H'
def spTo (C : Addr) : Sp := fun vs H Q _ => ∃ (a : Addr) (h : Int) (st z s t : Str) (l : List (Str × Sd)) (x : Sd), vs = [.ref a, .str z, .str s] ∧ WorkRd C H a h st l ∧ l.lookup z = some x ∧ toS x s = some t ∧ Q (.str t) H
/-! ### family C: names, targets, a menu of steps -/
theorem num1 : ∀ i < 10, TL.numL i = [48 + i] := by decide
theorem letterS {z : Str} {d : Nat} (h : z = ⟨#[d]⟩) : z.cps.toList = [d] := by rw [h]
theorem strsV_snoc (ws : List Str) (z : Str) : strsV ws ++ [.str z] = strsV (ws ++ [z]) := by simp [strsV]
def spNames : Sp := fun vs H Q _ => ∃ (p : Addr) (m : Int), vs = [.ref p, .int m] ∧ PoolAt H p ∧ 0 ≤ m ∧ m ≤ 9 ∧
  ∀ H' q ws, But p H H' → PoolAt H' p → H q = none → H' q = some (.lst (strsV ws)) → ws.length = m.toNat → (∀ z ∈ ws, NameS z) → ws.Nodup → ("zz" : Str) ∉ ws → Q (.ref q) H'
def spTarget (K : PySem.W.Frag) : Sp := fun vs H Q _ => ∃ (p q : Addr) (k : Nat) (rg : Bool) (ws : List Str), vs = [.ref p, .ref q, .int (k : Nat), .bl rg] ∧ PoolAt H p ∧ H q = some (.lst (strsV ws)) ∧ q ≠ p ∧ k + 1 < ws.length ∧ ws.length ≤ 1000 ∧
  ∀ H' z, But p H H' → PoolAt H' p → z ∈ ws → Q (.str z) H'
def spMenu : Sp := fun vs H Q _ => ∃ (p : Addr), vs = [.ref p] ∧ PoolAt H p ∧
  ∀ H' q ws, But p H H' → PoolAt H' p → H q = none → q ≠ p → H' q = some (.lst (strsV ws)) → ws.length = 4 → (∀ z ∈ ws, NameS z ∧ z.length ≤ 4) → Q (.ref q) H'
/-- the i-th name -/
def NmC (i : Nat) (z : Str) : Prop := ∃ d s, z.cps.toList = d :: (48 + i) :: s ∧ lowC d ∧ s.length ≤ 4 ∧ ∀ e ∈ s, sgnC e
theorem NmC.name {i : Nat} {z : Str} (h : NmC i z) (hi : i < 10) : NameS z := by
  obtain ⟨d, s, e, hd, hl, hs⟩ := h
  refine ⟨d, _, e, hd, by rw [List.length_cons]; omega, fun x hx => ?_⟩
  rcases List.mem_cons.mp hx with rfl | hx
  · exact .inr ⟨by omega, by omega⟩
  · exact hs x hx
theorem nmc_nodup {ws : List Str} (h : ∀ j z, ws[j]? = some z → NmC j z) : ws.Nodup := by
  refine List.pairwise_iff_getElem.mpr fun i j hi hj hij e => ?_
  obtain ⟨d1, s1, e1, _⟩ := h i _ (List.getElem?_eq_getElem hi)
  obtain ⟨d2, s2, e2, _⟩ := h j _ (List.getElem?_eq_getElem hj)
  rw [e, e2] at e1
  injection e1 with _ e3
  injection e3 with e4 _
  omega
theorem nmc_zz {i : Nat} {z : Str} (h : NmC i z) (hi : i < 10) : z ≠ "zz" := fun e => by
  obtain ⟨d, s, e1, _⟩ := h
  rw [e] at e1
  have e2 : ("zz" : Str).cps.toList = [122, 122] := by decide +kernel
  rw [e2] at e1
  injection e1 with _ e3
  injection e3 with e4 _
  omega
theorem suf_at : ∀ j < 4, ∃ s : Str, [V.str "", V.str "", V.str "q", V.str "zz7x"][j]? = some (.str s) ∧ s.cps.toList.length ≤ 4 ∧ ∀ e ∈ s.cps.toList, sgnC e := by
  intro j hj
  match j, hj with
  | 0, _ => exact ⟨"", rfl, by decide +kernel, by decide +kernel⟩
  | 1, _ => exact ⟨"", rfl, by decide +kernel, by decide +kernel⟩
  | 2, _ => exact ⟨"q", rfl, by decide +kernel, by decide +kernel⟩
  | 3, _ => exact ⟨"zz7x", rfl, by decide +kernel, by decide +kernel⟩
section
variable {P : Program} {w : World} {K : PySem.W.Frag} {mg : Str → Option Value} {base : Heap}
theorem ok_l_names {f : Addr} {fd : FuncData} (F : Fun K "_law_names" "_law_names" s_l_names f fd) (Z_range : mg "range" = none) (Z_str : mg "str" = none) (C_draw : Cal P w K mg base 1 "_law_draw" ["_law_drawer", "_law_many"] spDraw) : FnOk P w K mg base CX0 2 f fd ["_law_drawer", "_law_many"] spNames := by
  refine F.ok sc_l_names (fun vs H Q E h => ?_) (fun cdv A outer s H vs Q E hr h => ?_)
  · obtain ⟨_, _, rfl, _⟩ := h
    rfl
  · obtain ⟨p, m, rfl, hp, m0, m9, k⟩ := h
    refine ⟨_, (pss_cons (ps_set (i := 2) sc_l_names.nd rfl (Or.inl rfl) (pe_lst pa_nil))
      (pss_cons (ps_for PassesOwn.never rfl (pi_range1 rfl Z_range (pa_cons (pv 1) pa_nil)) (pg_name (i := 3) sc_l_names.nd rfl (Or.inl rfl))
      (pss_cons (ps_set (i := 4) sc_l_names.nd rfl (Or.inl rfl) (pe_ix ix_str pe_str (pe_cal C_draw (hr.mono (by decide)) (by rfl) (pa_cons (pv 0) (pa_cons pe_int pa_nil))) (fun _ _ => rfl)))
      (pss_one (ps_expr (pe_bm PySem.F.plainAttrs_list PySem.F.slot_list_append PySem.F.type_list_append mt_append (pv 2) (pa_cons (pe_op op_addSA (pe_op op_addSA (pv 4) (pe_callTy call_strIA (by rfl) Z_str (by decide +kernel) (pa_cons (pv 3) pa_nil))) (pe_ix ix_list (pe_lst (pa_cons pe_str (pa_cons pe_str (pa_cons pe_str (pa_cons pe_str pa_nil))))) (pe_cal C_draw (hr.mono (by decide)) (by rfl) (pa_cons (pv 0) (pa_cons pe_int pa_nil))) (fun _ _ => rfl))) pa_nil))))))
      (pss_one (ps_ret (pv 2))))), ?_⟩
    walk_at "go"
    refine ⟨sz_le (by simp), fun q hq => ?_⟩
    have nqp : q ≠ p := hp.ne hq
    walk_at "go"
    refine lpR (fun i σ H' => ∃ v3 v4 ws, σ = [some (.ref p), some (.int m), some (.ref q), v3, v4] ∧ But p H H' ∧ PoolAt H' p ∧ H' q = some (.lst (strsV ws)) ∧ ws.length = i ∧ ∀ j z, ws[j]? = some z → NmC j z) ⟨by omega, by omega⟩ ?_ ?_ ?_
    · exact ⟨_, _, [], rfl, But.of_same (same_new hq), hp.new hq, upd_same, rfl, fun j z h => by cases h⟩
    · rintro i σ H1 hi ⟨v3, v4, ws, rfl, b1, p1, hq1, hl, hn⟩
      walk_at "go"
      refine ⟨p, 26, rfl, p1, by decide, by decide, fun H2 j b2 p2 j0 j1 => ?_⟩
      have hq2 := b2 q _ hq1 nqp
      refine x_ixs j.toNat (by decide +kernel) (by omega) (letters_at _ (by omega)) ?_
      walk_at "go"
      refine x_strI (Nat.lt_of_le_of_lt (Nat.log2_le_self _) (by omega)) ?_
      have e1 : (Str.ofString (toString ((i : Nat) : Int))).cps.toList = [48 + i] := (TL.tl_num i).trans (num1 i (by omega))
      refine x_addS (j := Str.ofString (toString ((i : Nat) : Int))) (sz_le ?_) ?_
      · rw [str_len, str_len, e1]
        show 1 + 1 ≤ 10000
        omega
      walk_at "go"
      refine ⟨sz_le (by simp), fun tl htl => ?_⟩
      walk_at "go"
      refine ⟨p, 4, rfl, p2.new htl, by decide, by decide, fun H3 u b3 p3 u0 u1 => ?_⟩
      have htl3 := b3 tl _ upd_same (p2.ne htl)
      obtain ⟨sf, hsf, sl, ss⟩ := suf_at u.toNat (by omega)
      refine x_ixl u.toNat (SqL.of htl3) (by omega) hsf ?_
      have b23 := b2.trans ((But.of_same (same_new htl)).trans b3)
      refine x_addS (sz_le ?_) ?_
      · rw [str_len, str_len, tl_app, e1]
        rw [List.length_append]
        show 1 + 1 + _ ≤ 10000
        omega
      walk_at "go"
      refine x_app (b23 q _ hq1 nqp) (sz_lt (by rw [List.length_map]; omega)) ?_
      walk_at "go"
      refine ⟨_, _, ws ++ [(⟨#[97 + j.toNat]⟩ : Str) ++ Str.ofString (toString ((i : Nat) : Int)) ++ sf], rfl, fun b o e n => ?_, p3.upd nqp.symm, by rw [upd_same, strsV_snoc], by rw [List.length_append, hl]; rfl, fun jj z hz => ?_⟩
      · rw [upd_ne (ne_of_none e hq)]
        exact b23 b o (b1 b o e n) n
      · by_cases hji : jj < i
        · rw [List.getElem?_append_left (by omega)] at hz
          exact hn jj z hz
        · rw [List.getElem?_append_right (by omega)] at hz
          have e : jj = i := by
            have := (List.getElem?_eq_some_iff.mp hz).1
            simp at this
            omega
          subst e
          rw [hl, Nat.sub_self] at hz
          cases hz
          refine ⟨97 + j.toNat, sf.cps.toList, ?_, ⟨by omega, by omega⟩, sl, ss⟩
          rw [tl_app, tl_app, e1]
          rfl
    · rintro σ H1 ⟨v3, v4, ws, rfl, b1, p1, hq1, hl, hn⟩
      walk_at "go"
      refine k H1 q ws b1 p1 hq hq1 hl (fun z hz => ?_) (nmc_nodup hn) fun hz => ?_
      · obtain ⟨j, hj, e⟩ := List.getElem_of_mem hz
        exact (hn j z (by rw [List.getElem?_eq_getElem hj, e])).name (by omega)
      · obtain ⟨j, hj, e⟩ := List.getElem_of_mem hz
        exact nmc_zz (hn j _ (by rw [List.getElem?_eq_getElem hj, e])) (by omega) rfl
theorem ok_l_target {f : Addr} {fd : FuncData} (F : Fun K "_law_target" "_law_target" s_l_target f fd) (Z_len : mg "len" = none) (C_draw : Cal P w K mg base 1 "_law_draw" ["_law_drawer", "_law_many"] spDraw) : FnOk P w K mg base CX0 2 f fd ["_law_drawer", "_law_names_here", "_law_k", "_law_rings"] (spTarget K) := by
  refine F.ok sc_l_target (fun vs H Q E h => ?_) (fun cdv A outer s H vs Q E hr h => ?_)
  · obtain ⟨_, _, _, _, _, rfl, _⟩ := h
    rfl
  · obtain ⟨p, q, kk, rg, ws, rfl, hp, hq, nqp, h1, h2, k⟩ := h
    refine ⟨_, (pss_cons (ps_if (pt_val (pv 3))
      (pss_one (ps_ret (pe_ix ix_list (pv 1) (pe_cal C_draw (hr.mono (by decide)) (by rfl) (pa_cons (pv 0) (pa_cons (pe_callB call_lenA (by rfl) Z_len (by decide +kernel) (pa_cons (pv 1) pa_nil)) pa_nil))) (fun _ _ => rfl))))
      pss_nil)
      (pss_one (ps_ret (pe_ix ix_list (pv 1) (pe_op op_add (pe_op op_add (pv 2) pe_int) (pe_cal C_draw (hr.mono (by decide)) (by rfl) (pa_cons (pv 0) (pa_cons (pe_op op_sub (pe_op op_sub (pe_callB call_lenA (by rfl) Z_len (by decide +kernel) (pa_cons (pv 1) pa_nil)) pe_int) (pv 2)) pa_nil)))) (fun _ _ => rfl))))), ?_⟩
    have at_ : ∀ j < ws.length, ∃ z, (strsV ws)[j]? = some (.str z) ∧ z ∈ ws := fun j hj => ⟨ws[j], by rw [List.getElem?_map, List.getElem?_eq_getElem hj]; rfl, List.getElem_mem hj⟩
    cases rg with
    | true =>
      walk_at "go"
      refine ⟨p, ((strsV ws).length : Nat), rfl, hp, by rw [List.length_map]; omega, by rw [List.length_map]; omega, fun H1 j b1 p1 j0 j1 => ?_⟩
      rw [List.length_map] at j1
      obtain ⟨z, hz, hzm⟩ := at_ j.toNat (by omega)
      refine x_ixl j.toNat (SqL.of (b1 q _ hq nqp)) (by omega) hz ?_
      exact k H1 z b1 p1 hzm
    | false =>
      walk_at "go"
      refine ⟨p, ((strsV ws).length : Int) - 1 - kk, rfl, hp, by rw [List.length_map]; omega, by rw [List.length_map]; omega, fun H1 j b1 p1 j0 j1 => ?_⟩
      rw [List.length_map] at j1
      walk_at "go"
      obtain ⟨z, hz, hzm⟩ := at_ (kk + 1 + j.toNat) (by omega)
      refine x_ixl (kk + 1 + j.toNat) (SqL.of (b1 q _ hq nqp)) (by omega) hz ?_
      exact k H1 z b1 p1 hzm
theorem ok_l_menu {f : Addr} {fd : FuncData} (F : Fun K "_law_menu" "_law_menu" s_l_menu f fd) (C_draw : Cal P w K mg base 1 "_law_draw" ["_law_drawer", "_law_many"] spDraw) : FnOk P w K mg base CX0 2 f fd ["_law_drawer"] spMenu := by
  refine F.ok sc_l_menu (fun vs H Q E h => ?_) (fun cdv A outer s H vs Q E hr h => ?_)
  · obtain ⟨_, rfl, _⟩ := h
    rfl
  · obtain ⟨p, rfl, hp, k⟩ := h
    refine ⟨_, (pss_cons (ps_set (i := 1) sc_l_menu.nd rfl (Or.inl rfl) (pe_ix ix_str pe_str (pe_cal C_draw (hr.mono (by decide)) (by rfl) (pa_cons (pv 0) (pa_cons pe_int pa_nil))) (fun _ _ => rfl)))
      (pss_cons (ps_set (i := 2) sc_l_menu.nd rfl (Or.inl rfl) (pe_lst (pa_cons (pe_lst (pa_cons pe_str (pa_cons pe_str (pa_cons pe_str (pa_cons pe_str pa_nil))))) (pa_cons (pe_lst (pa_cons pe_str (pa_cons pe_str (pa_cons pe_str (pa_cons pe_str pa_nil))))) (pa_cons (pe_lst (pa_cons (pe_op op_addSA (pv 1) pe_str) (pa_cons (pe_op op_addSA (pv 1) pe_str) (pa_cons (pv 1) (pa_cons (pe_op op_addSA pe_str (pv 1)) pa_nil))))) pa_nil)))))
      (pss_one (ps_ret (pe_ix ix_list (pv 2) (pe_cal C_draw (hr.mono (by decide)) (by rfl) (pa_cons (pv 0) (pa_cons pe_int pa_nil))) (fun _ _ => rfl)))))), ?_⟩
    walk_at "go"
    refine ⟨p, 26, rfl, hp, by decide, by decide, fun H1 j b1 p1 j0 j1 => ?_⟩
    refine x_ixs j.toNat (by decide +kernel) (by omega) (letters_at _ (by omega)) ?_
    walk_at "go"
    have hz : lowC (97 + j.toNat) := ⟨by omega, by omega⟩
    generalize hd : 97 + j.toNat = d at hz
    refine ⟨by decide, fun l1 h1 => ?_⟩
    walk_at "go"
    refine ⟨by decide, fun l2 h2 => ?_⟩
    walk_at "go"
    have lz : ((⟨#[d]⟩ : Str)).length = 1 := rfl
    refine x_addS (sz_le (by rw [lz]; decide)) ?_
    walk_at "go"
    refine x_addS (sz_le (by rw [lz]; decide)) ?_
    walk_at "go"
    refine x_addS (sz_le (by rw [lz]; decide)) ?_
    walk_at "go"
    refine ⟨sz_le (by simp), fun l3 h3 => ?_⟩
    walk_at "go"
    refine ⟨sz_le (by simp), fun lm h4 => ?_⟩
    have q1 : (upd H1 l1 (.lst [.str "go", .str "a1", .str "stay", .str "b"])) l1 = some (.lst (strsV ["go", "a1", "stay", "b"])) := upd_same
    have p2 := p1.new (o := .lst [.str "go", .str "a1", .str "stay", .str "b"]) h1
    have b2 : But p H (upd H1 l1 (.lst [.str "go", .str "a1", .str "stay", .str "b"])) := b1.new h1
    have n1 : l1 ≠ p := p1.ne h1
    have f1 : H l1 = none := none_of_but b1 h1 n1
    generalize upd H1 l1 (.lst [.str "go", .str "a1", .str "stay", .str "b"]) = H2 at *
    have q12 := (same_new (o := .lst [.str "x", .str "yy", .str "z", .str "w0"]) h2) _ _ q1
    have q2 : (upd H2 l2 (.lst [.str "x", .str "yy", .str "z", .str "w0"])) l2 = some (.lst (strsV ["x", "yy", "z", "w0"])) := upd_same
    have p3 := p2.new (o := .lst [.str "x", .str "yy", .str "z", .str "w0"]) h2
    have b3 : But p H (upd H2 l2 (.lst [.str "x", .str "yy", .str "z", .str "w0"])) := b2.new h2
    have n2 : l2 ≠ p := p2.ne h2
    have f2 : H l2 = none := none_of_but b2 h2 n2
    generalize upd H2 l2 (.lst [.str "x", .str "yy", .str "z", .str "w0"]) = H3 at *
    have q13 := (same_new (o := .lst (strsV [(⟨#[d]⟩ : Str) ++ "2", ⟨#[d]⟩ ++ "10", ⟨#[d]⟩, "m" ++ ⟨#[d]⟩])) h3) _ _ q12
    have q23 := (same_new (o := .lst (strsV [(⟨#[d]⟩ : Str) ++ "2", ⟨#[d]⟩ ++ "10", ⟨#[d]⟩, "m" ++ ⟨#[d]⟩])) h3) _ _ q2
    have q3 : (upd H3 l3 (.lst (strsV [(⟨#[d]⟩ : Str) ++ "2", ⟨#[d]⟩ ++ "10", ⟨#[d]⟩, "m" ++ ⟨#[d]⟩]))) l3 = some (.lst (strsV [(⟨#[d]⟩ : Str) ++ "2", ⟨#[d]⟩ ++ "10", ⟨#[d]⟩, "m" ++ ⟨#[d]⟩])) := upd_same
    have p4 := p3.new (o := .lst (strsV [(⟨#[d]⟩ : Str) ++ "2", ⟨#[d]⟩ ++ "10", ⟨#[d]⟩, "m" ++ ⟨#[d]⟩])) h3
    have b4 : But p H (upd H3 l3 (.lst (strsV [(⟨#[d]⟩ : Str) ++ "2", ⟨#[d]⟩ ++ "10", ⟨#[d]⟩, "m" ++ ⟨#[d]⟩]))) := b3.new h3
    have n3 : l3 ≠ p := p3.ne h3
    have f3 : H l3 = none := none_of_but b3 h3 n3
    walk_at "go"
    refine ⟨p, 3, rfl, p4.new h4, by decide, by decide, fun H5 u b5 p5 u0 u1 => ?_⟩
    have hm5 := b5 lm _ upd_same (p4.ne h4)
    have s4 : L2.Same (upd H3 l3 (.lst (strsV [(⟨#[d]⟩ : Str) ++ "2", ⟨#[d]⟩ ++ "10", ⟨#[d]⟩, "m" ++ ⟨#[d]⟩]))) (upd (upd H3 l3 (.lst (strsV [(⟨#[d]⟩ : Str) ++ "2", ⟨#[d]⟩ ++ "10", ⟨#[d]⟩, "m" ++ ⟨#[d]⟩]))) lm (.lst [.ref l1, .ref l2, .ref l3])) := same_new h4
    have bb : But p H H5 := (b4.new h4).trans b5
    have g1 := b5 l1 _ (s4 _ _ q13) n1
    have g2 := b5 l2 _ (s4 _ _ q23) n2
    have g3 := b5 l3 _ (s4 _ _ q3) n3
    have lzl : ((⟨#[d]⟩ : Str)).cps.toList = [d] := rfl
    have nd : NameS (⟨#[d]⟩ : Str) := ⟨d, [], rfl, hz, by simp, fun e he => by cases he⟩
    have n2c : NameS ((⟨#[d]⟩ : Str) ++ "2") := ⟨d, [50], by rw [tl_app, lzl]; rfl, hz, by simp, by decide⟩
    have n10 : NameS ((⟨#[d]⟩ : Str) ++ "10") := ⟨d, [49, 48], by rw [tl_app, lzl]; rfl, hz, by simp, by decide⟩
    have nm : NameS (("m" : Str) ++ ⟨#[d]⟩) := ⟨109, [d], by rw [tl_app, lzl]; rfl, by decide, by simp, fun e he => by
      rw [List.mem_singleton.mp he]
      exact .inl hz⟩
    have : u = 0 ∨ u = 1 ∨ u = 2 := by omega
    rcases this with rfl | rfl | rfl
    · refine x_ixl 0 (SqL.of hm5) rfl rfl ?_
      refine k H5 l1 _ bb p5 f1 n1 g1 rfl fun z hzm => ?_
      simp at hzm
      rcases hzm with rfl | rfl | rfl | rfl <;> exact ⟨nameL_iff.mp (by decide +kernel), by decide +kernel⟩
    · refine x_ixl 1 (SqL.of hm5) rfl rfl ?_
      refine k H5 l2 _ bb p5 f2 n2 g2 rfl fun z hzm => ?_
      simp at hzm
      rcases hzm with rfl | rfl | rfl | rfl <;> exact ⟨nameL_iff.mp (by decide +kernel), by decide +kernel⟩
    · refine x_ixl 2 (SqL.of hm5) rfl rfl ?_
      refine k H5 l3 _ bb p5 f3 n3 g3 rfl fun z hzm => ?_
      simp at hzm
      rcases hzm with rfl | rfl | rfl | rfl
      · exact ⟨n2c, by rw [str_len, tl_app, lzl, List.length_append]; exact Nat.le_of_ble_eq_true rfl⟩
      · exact ⟨n10, by rw [str_len, tl_app, lzl, List.length_append]; exact Nat.le_of_ble_eq_true rfl⟩
      · exact ⟨nd, by rw [str_len, lzl]; exact Nat.le_of_ble_eq_true rfl⟩
      · exact ⟨nm, by rw [str_len, tl_app, lzl, List.length_append]; exact Nat.le_of_ble_eq_true rfl⟩
end
/-! ### family C: a drawn stand -/
def spStand : Sp := fun vs H Q _ => ∃ (p q w : Addr) (kk : Nat) (h : Int) (rg : Bool) (ns ws : List Str), vs = [.ref p, .ref q, .int (kk : Nat), .int h, .ref w, .bl rg] ∧ PoolAt H p ∧ H q = some (.lst (strsV ns)) ∧ q ≠ p ∧ H w = some (.lst (strsV ws)) ∧ w ≠ p ∧ kk < ns.length ∧ ns.length ≤ 1000 ∧ ws.length = 4 ∧ (∀ z ∈ ws, NameS z ∧ z.length ≤ 4) ∧
  1 ≤ h ∧ h ≤ 4 ∧ ∀ H' a x, But p H H' → PoolAt H' p → H a = none → a ≠ p → SdAt (wo H' p) a x → GoodSd h ns x → (kk + 1 = ns.length → x = .fin) → (∀ s ∈ stepsL x, s.length ≤ 4) → Q (.ref a) H'
section
variable {P : Program} {w : World} {K : PySem.W.Frag} {mg : Str → Option Value} {base : Heap}
theorem ok_l_stand {f : Addr} {fd : FuncData} (F : Fun K "_law_stand" "_law_stand" s_l_stand f fd) (Z_range : mg "range" = none) (Z_len : mg "len" = none) (C_draw : Cal P w K mg base 1 "_law_draw" ["_law_drawer", "_law_many"] spDraw)
    (C_l_target : Cal P w K mg base 2 "_law_target" ["_law_drawer", "_law_names_here", "_law_k", "_law_rings"] (spTarget K)) : FnOk P w K mg base CX0 3 f fd ["_law_drawer", "_law_names_here", "_law_k", "_law_hands", "_law_menu_here", "_law_rings"] spStand := by
  refine F.ok sc_l_stand (fun vs H Q E h => ?_) (fun cdv A outer s H vs Q E hr h => ?_)
  · obtain ⟨_, _, _, _, _, _, _, _, rfl, _⟩ := h
    rfl
  · obtain ⟨p, q, w, kk, h, rg, ns, ws, rfl, hp, hq, nqp, hw, nwp, n1, n2, w4, hnm, h1, h4, k⟩ := h
    have hu := hu_of hr
    refine ⟨_, (pss_cons (ps_set (i := 6) sc_l_stand.nd rfl (Or.inl rfl) (pe_cal C_draw (hr.mono (by decide)) (by rfl) (pa_cons (pv 0) (pa_cons pe_int pa_nil))))
      (pss_cons (ps_set (i := 7) sc_l_stand.nd rfl (Or.inl rfl) (pe_ix ix_list (pe_lst (pa_cons pe_int (pa_cons pe_int (pa_cons pe_int (pa_cons pe_int (pa_cons pe_int (pa_cons pe_int (pa_cons pe_int (pa_cons pe_int pa_nil))))))))) (pe_cal C_draw (hr.mono (by decide)) (by rfl) (pa_cons (pv 0) (pa_cons pe_int pa_nil))) (fun _ _ => rfl)))
      (pss_cons (ps_set (i := 8) sc_l_stand.nd rfl (Or.inl rfl) (pe_cal C_draw (hr.mono (by decide)) (by rfl) (pa_cons (pv 0) (pa_cons pe_int pa_nil))))
      (pss_cons (ps_if (PW.pt (pw_or (pt_cmpR op_eq (pv 2) (pe_op op_sub (pe_callB call_lenA (by rfl) Z_len (by decide +kernel) (pa_cons (pv 1) pa_nil)) pe_int) (nomark _)) (pw_or1 (PW.pt (pw_and (pt_cmpR op_eq (pv 6) pe_int (nomark _)) (pw_and1 (pt_cmpR op_gt (pv 2) pe_int (nomark _))))))))
      (pss_one (ps_ret (pe_tup (pa_cons pe_str pa_nil))))
      pss_nil)
      (pss_cons (ps_set (i := 9) sc_l_stand.nd rfl (Or.inl rfl) pe_dnewK)
      (pss_cons (ps_if (pt_cmpR op_lt (pv 6) pe_int (nomark _))
      (pss_cons (ps_set (i := 10) sc_l_stand.nd rfl (Or.inl rfl) (pe_cal C_draw (hr.mono (by decide)) (by rfl) (pa_cons (pv 0) (pa_cons (pv 3) pa_nil))))
      (pss_cons (ps_for PassesOwn.never rfl (pi_range1 rfl Z_range (pa_cons (pv 7) pa_nil)) (pg_name (i := 11) sc_l_stand.nd rfl (Or.inl rfl))
      (pss_one (ps_dput hu (pv 9) (pe_ix ix_list (pv 4) (pe_op op_mod (pe_op op_add (pv 11) (pv 8)) pe_int) (fun _ _ => rfl)) (pe_cal C_l_target (hr.mono (by decide)) (by rfl) (pa_cons (pv 0) (pa_cons (pv 1) (pa_cons (pv 2) (pa_cons (pv 5) pa_nil))))) rfl)))
      (pss_one (ps_ret (pe_tup (pa_cons pe_str (pa_cons (pv 10) (pa_cons (pv 9) pa_nil))))))))
      pss_nil)
      (pss_cons (ps_for PassesOwn.never rfl (pi_range1 rfl Z_range (pa_cons (pv 7) pa_nil)) (pg_name (i := 11) sc_l_stand.nd rfl (Or.inl rfl))
      (pss_cons (ps_set (i := 12) sc_l_stand.nd rfl (Or.inl rfl) (pe_op op_add pe_int (pe_cal C_draw (hr.mono (by decide)) (by rfl) (pa_cons (pv 0) (pa_cons pe_int pa_nil)))))
      (pss_one (ps_dput hu (pv 9) (pe_ix ix_list (pv 4) (pe_op op_mod (pe_op op_add (pv 11) (pv 8)) pe_int) (fun _ _ => rfl)) (pe_tup (pa_cons (pe_cal C_l_target (hr.mono (by decide)) (by rfl) (pa_cons (pv 0) (pa_cons (pv 1) (pa_cons (pv 2) (pa_cons (pv 5) pa_nil))))) (pa_cons (pv 12) pa_nil))) rfl))))
      (pss_one (ps_ret (pe_tup (pa_cons pe_str (pa_cons (pv 9) pa_nil)))))))))))), ?_⟩
    walk_at "go"
    refine ⟨p, 8, rfl, hp, by decide, by decide, fun H1 so b1 p1 s0 s1 => ?_⟩
    walk_at "go"
    refine ⟨sz_le (by simp), fun ln hln => ?_⟩
    have p1n := p1.new (o := .lst [.int 2, .int 1, .int 2, .int 3, .int 3, .int 2, .int 1, .int 4]) hln
    walk_at "go"
    refine ⟨p, 8, rfl, p1n, by decide, by decide, fun H2 j b2 p2 j0 j1 => ?_⟩
    have hln2 := b2 ln _ upd_same (p1.ne hln)
    obtain ⟨cnt, hcnt, hcm⟩ := pickI [2, 1, 2, 3, 3, 2, 1, 4] j0 j1
    have hc4 : 1 ≤ cnt ∧ cnt ≤ 4 := by simp at hcm; omega
    have b02 : But p H H2 := b1.trans ((But.of_same (same_new hln)).trans b2)
    walk_at "go"
    refine x_ixl j.toNat (SqL.of hln2) (by omega) hcnt ?_
    walk_at "go"
    refine ⟨p, 2, rfl, p2, by decide, by decide, fun H3 sh b3 p3 f0 f1 => ?_⟩
    have b03 := b02.trans b3
    have hq3 := b03 q _ hq nqp
    refine x_seq ?_
    have endB : ∀ (H' : Hp), H' = H3 → ([V.str "end"].length ≤ sizeLine ∧ ∀ a, H' a = none → Q (.ref a) (upd H' a (.tup [.str "end"]))) := fun H' e => by
      subst e
      refine ⟨by decide, fun a ha => ?_⟩
      have nap : a ≠ p := p3.ne ha
      exact k _ a .fin (b03.new ha) (p3.new ha) (none_of_but b03 ha nap) nap (show wo (upd H' a _) p a = _ from by rw [wo_ne nap]; exact upd_same) trivial (fun _ => rfl) fun s hs => by cases hs
    refine if_joinH (α := Unit) (fun _ H' => H' = H3 ∧ kk + 1 < ns.length) (fun _ => [some (.ref p), some (.ref q), some (.int (kk : Nat)), some (.int h), some (.ref w), some (.bl rg), some (.int so), some (.int cnt), some (.int sh), none, none, none, none]) (fun n' hn' => ?_) ?_
    · walk_at "go"
      refine x_dec (fun hk => ?_) (fun hk => ?_)
      · walk_at "go"
        exact endB _ rfl
      · rw [List.length_map] at hk
        walk_at "go"
        refine x_dec (fun hs => ?_) (fun hs => ?_)
        · walk_at "go"
          refine x_dec (fun hg => ?_) (fun hg => ?_)
          · walk_at "go"
            exact endB _ rfl
          · walk_at "go"
            exact hn' () _ ⟨rfl, by omega⟩
        · walk_at "go"
          exact hn' () _ ⟨rfl, by omega⟩
    · rintro ⟨⟩ H' ⟨rfl, hkk⟩
      walk_at "go"
      intro D hD
      have nDp : D ≠ p := p3.ne hD
      have hD0 : H D = none := none_of_but b03 hD nDp
      have p4 := p3.new (o := .dK []) hD
      have b04 : But p H (upd H' D (.dK [])) := b03.new hD
      have hD4 : (upd H' D (.dK [])) D = some (.dK []) := upd_same
      generalize upd H' D (.dK []) = H4 at p4 b04 hD4 ⊢
      have word : ∀ i : Nat, ∃ z, (strsV ws)[(((i : Int) + sh) % 4).toNat]? = some (.str z) ∧ NameS z ∧ z.length ≤ 4 := fun i => by
        obtain ⟨z, hz, hz2⟩ := pickS ws (j := ((i : Int) + sh) % 4) (by omega) (by rw [w4]; omega)
        exact ⟨z, hz, hnm z (List.mem_of_getElem? hz2)⟩
      walk_at "go"
      refine x_dec (fun hk => ?_) (fun hk => ?_)
      · walk_at "go"
        refine ⟨p, h, rfl, p4, by omega, by omega, fun H5 hand b5 p5 g0 g1 => ?_⟩
        have b05 := b04.trans b5
        have hD5 := b5 D _ hD4 nDp
        walk_at "go"
        refine lpR (fun i σ H' => ∃ v11 l, σ = [some (.ref p), some (.ref q), some (.int (kk : Nat)), some (.int h), some (.ref w), some (.bl rg), some (.int so), some (.int cnt), some (.int sh), some (.ref D), some (.int hand), v11, none] ∧ But p H H' ∧ PoolAt H' p ∧ H' D = some (.dK (strK V.str l)) ∧
          (l.map (·.1)).Nodup ∧ l.length ≤ i ∧ (1 ≤ i → 1 ≤ l.length) ∧ (∀ q ∈ l, NameS q.1 ∧ q.2 ∈ ns) ∧ ∀ q ∈ l, q.1.length ≤ 4) ⟨by omega, by omega⟩ ?_ ?_ ?_
        · exact ⟨_, [], rfl, b05, p5, hD5, List.nodup_nil, Nat.zero_le _, fun e => absurd e (by omega), (fun q hq => by cases hq), fun q hq => by cases hq⟩
        · rintro i σ H6 hi ⟨v11, l, rfl, b6, p6, hDW, lnd, ll, l1, lg, l4⟩
          have hq6 := b6 q _ hq nqp
          have hw6 := b6 w _ hw nwp
          walk_at "go"
          refine ⟨p, q, kk, rg, ns, rfl, p6, hq6, nqp, hkk, n2, fun H7 to b7 p7 hto => ?_⟩
          have hw7 := b7 w _ hw6 nwp
          obtain ⟨z, hz, hzn, hz4⟩ := word i
          walk_at "go"
          refine x_ixl (((i : Int) + sh) % 4).toNat (SqL.of hw7) (by omega) hz ?_
          refine x_putL (l := l) (x := to) (b7 D _ hDW nDp) (by omega) rfl ?_
          refine ⟨_, putL l z to, rfl, fun b o e n => ?_, p7.upd nDp.symm, upd_same, putL_nd _ lnd, Nat.le_trans (putL_len _ _ _) (Nat.succ_le_succ ll), fun _ => putL_pos _ _ _, fun y hy => ?_, fun y hy => ?_⟩
          · rw [upd_ne (ne_of_none e hD0)]
            exact b7 b o (b6 b o e n) n
          · rcases putL_mem hy with rfl | ⟨hy, _⟩
            · exact ⟨hzn, hto⟩
            · exact lg y hy
          · rcases putL_mem hy with rfl | ⟨hy, _⟩
            · exact hz4
            · exact l4 y hy
        · rintro σ H6 ⟨v11, l, rfl, b6, p6, hDW, lnd, ll, l1, lg, l4⟩
          walk_at "go"
          refine ⟨sz_le (by simp), fun a ha => ?_⟩
          have nap : a ≠ p := p6.ne ha
          have nDa : D ≠ a := ne_of_none hDW ha
          exact k _ a (.hand hand l) (b6.new ha) (p6.new ha) (none_of_but b6 ha nap) nap ⟨D, by rw [wo_ne nap]; exact upd_same, by rw [wo_ne nDp, upd_ne nDa]; exact hDW⟩ ⟨g0, g1, lnd, l1 (by omega), by omega, lg⟩ (fun e => by omega) (fun s hs => by
            obtain ⟨q, hq, rfl⟩ := List.mem_map.mp (show s ∈ l.map (·.1) from hs)
            exact l4 q hq)
      · walk_at "go"
        refine lpR (fun i σ H' => ∃ v11 v12 l, σ = [some (.ref p), some (.ref q), some (.int (kk : Nat)), some (.int h), some (.ref w), some (.bl rg), some (.int so), some (.int cnt), some (.int sh), some (.ref D), none, v11, v12] ∧ But p H H' ∧ PoolAt H' p ∧ DictW PairAt (wo H' p) D l ∧
          (l.map (·.1)).Nodup ∧ l.length ≤ i ∧ (1 ≤ i → 1 ≤ l.length) ∧ (∀ q ∈ l, NameS q.1 ∧ q.2.1 ∈ ns ∧ 1 ≤ q.2.2 ∧ q.2.2 ≤ 9) ∧ ∀ q ∈ l, q.1.length ≤ 4) ⟨by omega, by omega⟩ ?_ ?_ ?_
        · exact ⟨_, _, [], rfl, b04, p4, .nil (by rw [wo_ne nDp]; exact hD4), List.nodup_nil, Nat.zero_le _, fun e => absurd e (by omega), (fun q hq => by cases hq), fun q hq => by cases hq⟩
        · rintro i σ H6 hi ⟨v11, v12, l, rfl, b6, p6, hDW, lnd, ll, l1, lg, l4⟩
          walk_at "go"
          refine ⟨p, 3, rfl, p6, by decide, by decide, fun H7 wt b7 p7 u0 u1 => ?_⟩
          have b67 := b6.trans b7
          walk_at "go"
          refine ⟨p, q, kk, rg, ns, rfl, p7, b67 q _ hq nqp, nqp, hkk, n2, fun H8 to b8 p8 hto => ?_⟩
          walk_at "go"
          refine ⟨sz_le (by simp), fun pa hpa => ?_⟩
          have b68 : But p H6 (upd H8 pa (.tup [.str to, .int (1 + wt)])) := (b7.trans b8).new hpa
          have p9 := p8.new (o := .tup [.str to, .int (1 + wt)]) hpa
          have npap : pa ≠ p := p8.ne hpa
          have hpa9 : (upd H8 pa (.tup [.str to, .int (1 + wt)])) pa = some (.tup [.str to, .int (1 + wt)]) := upd_same
          have b9 := b6.trans b68
          generalize upd H8 pa (.tup [.str to, .int (1 + wt)]) = H9 at b68 p9 hpa9 b9 ⊢
          obtain ⟨m, m1, m2, m3⟩ := (hDW.same monoP (but_wo b68)).ex
          have hD9 := (wo_some m1).1
          have hw9' := b9 w _ hw nwp
          obtain ⟨z, hz, hzn, hz4⟩ := word i
          walk_at "go"
          refine x_ixl (((i : Int) + sh) % 4).toNat (SqL.of hw9') (by omega) hz ?_
          have hml : m.length = l.length := by
            have := congrArg List.length m2
            rwa [List.length_map, List.length_map] at this
          refine x_putL (l := m) (x := pa) hD9 (by omega) rfl ?_
          have npaD : pa ≠ D := ne_of hpa9 hD9 (by intro z; cases z)
          refine ⟨_, _, putL l z (to, 1 + wt), rfl, fun b o e n => ?_, p9.upd nDp.symm, ?_, putL_nd _ lnd, Nat.le_trans (putL_len _ _ _) (Nat.succ_le_succ ll), fun _ => putL_pos _ _ _, fun y hy => ?_, fun y hy => ?_⟩
          · rw [upd_ne (ne_of_none e hD0)]
            exact b9 b o e n
          · rw [wo_upd_ne nDp]
            exact DictW.put m2 m3 (show PairAt _ _ _ from by
              show wo (wo H9 p) D pa = _
              rw [wo_ne npaD, wo_ne npap]
              exact hpa9)
          · rcases putL_mem hy with rfl | ⟨hy, _⟩
            · exact ⟨hzn, hto, by show 1 ≤ 1 + wt; omega, by show 1 + wt ≤ 9; omega⟩
            · exact lg y hy
          · rcases putL_mem hy with rfl | ⟨hy, _⟩
            · exact hz4
            · exact l4 y hy
        · rintro σ H6 ⟨v11, v12, l, rfl, b6, p6, hDW, lnd, ll, l1, lg, l4⟩
          walk_at "go"
          refine ⟨sz_le (by simp), fun a ha => ?_⟩
          have nap : a ≠ p := p6.ne ha
          refine k _ a (.chance l) (b6.new ha) (p6.new ha) (none_of_but b6 ha nap) nap ⟨D, by rw [wo_ne nap]; exact upd_same, ((hDW.same monoP ?_).of monoP)⟩ ⟨lnd, l1 (by omega), by omega, lg⟩ (fun e => by omega) (fun s hs => by
            obtain ⟨q, hq, rfl⟩ := List.mem_map.mp (show s ∈ l.map (·.1) from hs)
            exact l4 q hq)
          rw [wo_upd_ne nap]
          exact same_new (wo_none ha)
end
/-! ### family C: stands, a work to build -/
def spStands : Sp := fun vs H Q _ => ∃ (p q : Addr) (h : Int) (rg : Bool) (ns : List Str), vs = [.ref p, .ref q, .int h, .bl rg] ∧ PoolAt H p ∧ H q = some (.lst (strsV ns)) ∧ q ≠ p ∧ 1 ≤ ns.length ∧ ns.length ≤ 100 ∧ (∀ z ∈ ns, NameS z) ∧ ns.Nodup ∧ 1 ≤ h ∧ h ≤ 4 ∧
  ∀ H' D l, But p H H' → PoolAt H' p → H D = none → D ≠ p → DictOf SdAt (wo H' p) D l → l.map (·.1) = ns → (∀ z x, l.lookup z = some x → GoodSd h ns x) → (∃ z, l.lookup z = some .fin) → (∀ z x, l.lookup z = some x → ∀ s ∈ stepsL x, s.length ≤ 4) → Q (.ref D) H'
def spBuild (K : PySem.W.Frag) : Sp := fun vs H Q _ => ∃ (a : Addr) (sc : List Int), vs = [.ref a] ∧ SqL K H a (intsV sc) ∧ sc.length ≤ 63 ∧
  ∀ H' r q D h ns l, L2.Same H H' → H' r = some (.lst [.int h, .ref q, .ref D]) → H' q = some (.lst (strsV ns)) → DictOf SdAt H' D l → GoodT h l → l.map (·.1) = ns → 1 ≤ h → h ≤ 4 → l.length ≤ 8 → (∃ z, l.lookup z = some .fin) → ("zz" : Str) ∉ ns → (∀ z x, l.lookup z = some x → ∀ s ∈ stepsL x, s.length ≤ 4) → Q (.ref r) H'
section
variable {P : Program} {w : World} {K : PySem.W.Frag} {mg : Str → Option Value} {base : Heap}
theorem ok_l_stands {f : Addr} {fd : FuncData} (F : Fun K "_law_stands" "_law_stands" s_l_stands f fd) (Z_range : mg "range" = none) (Z_len : mg "len" = none) (C_l_menu : Cal P w K mg base 2 "_law_menu" ["_law_drawer"] spMenu)
    (C_l_stand : Cal P w K mg base 3 "_law_stand" ["_law_drawer", "_law_names_here", "_law_k", "_law_hands", "_law_menu_here", "_law_rings"] spStand) : FnOk P w K mg base CX0 4 f fd ["_law_drawer", "_law_names_here", "_law_hands", "_law_rings"] spStands := by
  refine F.ok sc_l_stands (fun vs H Q E h => ?_) (fun cdv A outer s H vs Q E hr h => ?_)
  · obtain ⟨_, _, _, _, _, rfl, _⟩ := h
    rfl
  · obtain ⟨p, q, h, rg, ns, rfl, hp, hq, nqp, n1, n2, hnm, hnd, h1, h4, k⟩ := h
    have hu := hu_of hr
    refine ⟨_, (pss_cons (ps_set (i := 4) sc_l_stands.nd rfl (Or.inl rfl) (pe_cal C_l_menu (hr.mono (by decide)) (by rfl) (pa_cons (pv 0) pa_nil)))
      (pss_cons (ps_set (i := 5) sc_l_stands.nd rfl (Or.inl rfl) pe_dnewK)
      (pss_cons (ps_for PassesOwn.never rfl (pi_range1 rfl Z_range (pa_cons (pe_callB call_lenA (by rfl) Z_len (by decide +kernel) (pa_cons (pv 1) pa_nil)) pa_nil)) (pg_name (i := 6) sc_l_stands.nd rfl (Or.inl rfl))
      (pss_one (ps_dput hu (pv 5) (pe_ix ix_list (pv 1) (pv 6) (fun _ _ => rfl)) (pe_cal C_l_stand (hr.mono (by decide)) (by rfl) (pa_cons (pv 0) (pa_cons (pv 1) (pa_cons (pv 6) (pa_cons (pv 2) (pa_cons (pv 4) (pa_cons (pv 3) pa_nil))))))) rfl)))
      (pss_one (ps_ret (pv 5)))))), ?_⟩
    walk_at "go"
    refine ⟨p, rfl, hp, fun H1 w ws b1 p1 hw0 nwp hw wl wn => ?_⟩
    walk_at "go"
    intro D hD
    have nDp : D ≠ p := p1.ne hD
    have hD0 : H D = none := none_of_but b1 hD nDp
    have hq1 := b1 q _ hq nqp
    have b2 : But p H (upd H1 D (.dK [])) := b1.new hD
    have p2 := p1.new (o := .dK []) hD
    have hq2 : (upd H1 D (.dK [])) q = some (.lst (strsV ns)) := b2 q _ hq nqp
    have hw2 : (upd H1 D (.dK [])) w = some (.lst (strsV ws)) := by rw [upd_ne (ne_of_none hw hD)]; exact hw
    have hD2 : (upd H1 D (.dK [])) D = some (.dK []) := upd_same
    generalize upd H1 D (.dK []) = H2 at b2 p2 hq2 hw2 hD2 ⊢
    have nqD : q ≠ D := ne_of hq2 hD2 (by intro z; cases z)
    have nwD : w ≠ D := ne_of hw2 hD2 (by intro z; cases z)
    walk_at "go"
    refine lpR (fun i σ H' => ∃ v6 l, σ = [some (.ref p), some (.ref q), some (.int h), some (.bl rg), some (.ref w), some (.ref D), v6] ∧ But p (wo H2 D) H' ∧ PoolAt H' p ∧ DictW SdAt (wo H' p) D l ∧
      l.map (·.1) = ns.take i ∧ (∀ z x, l.lookup z = some x → GoodSd h ns x) ∧ (i = ns.length → ∃ z, l.lookup z = some .fin) ∧ ∀ z x, l.lookup z = some x → ∀ s ∈ stepsL x, s.length ≤ 4) ⟨by rw [List.length_map]; omega, by rw [List.length_map]; omega⟩ ?_ ?_ ?_
    · exact ⟨_, [], rfl, fun b o e _ => wo_same b o e, p2, .nil (by rw [wo_ne nDp]; exact hD2), by simp, fun z x e => (by cases e), (fun e => by omega), fun z x e => by cases e⟩
    · rintro i σ H3 hi ⟨v6, l, rfl, b3, p3, hDW, kl, gl, fl, sl⟩
      rw [List.length_map, Int.toNat_natCast] at hi
      have hq3 : H3 q = some (.lst (strsV ns)) := b3 q _ (by rw [wo_ne nqD]; exact hq2) nqp
      have hw3 : H3 w = some (.lst (strsV ws)) := b3 w _ (by rw [wo_ne nwD]; exact hw2) nwp
      have hz : ns[i]? = some ns[i] := List.getElem?_eq_getElem hi
      generalize ns[i] = z at hz
      have hzv : (strsV ns)[i]? = some (.str z) := by rw [List.getElem?_map, hz]; rfl
      have hzt : z ∉ l.map (·.1) := fun hm => by
        rw [kl] at hm
        obtain ⟨j, hj, he⟩ := List.getElem_of_mem hm
        have hj2 : j < i := by simp at hj; omega
        have h5 : ns[j]? = some z := by
          rw [List.getElem_take] at he
          rw [List.getElem?_eq_getElem (by omega), he]
        have := L2.nd_ix hnd h5 hz
        omega
      have ll : l.length ≤ 1000 := by
        have := congrArg List.length kl
        rw [List.length_map, List.length_take] at this
        omega
      walk_at "go"
      refine ⟨p, q, w, i, h, rg, ns, ws, rfl, p3, hq3, nqp, hw3, nwp, hi, by omega, wl, wn, h1, h4, fun H4 a x b4 p4 ha nap hx hg hfin hx4 => ?_⟩
      walk_at "go"
      refine x_ixl i (SqL.of (b4 q _ hq3 nqp)) rfl hzv ?_
      obtain ⟨m, m1, m2, m3⟩ := (hDW.same monoS (but_wo b4)).ex
      have hml : m.length = l.length := by
        have := congrArg List.length m2
        rwa [List.length_map, List.length_map] at this
      refine x_putL (l := m) (x := a) (wo_some m1).1 (by omega) rfl ?_
      refine ⟨_, putL l z x, rfl, fun b o e n => ?_, p4.upd nDp.symm, ?_, ?_, fun y v hv => ?_, fun e => ⟨z, by rw [lookup_putL, if_pos rfl, hfin e]⟩, fun y v hv => ?_⟩
      · have nbD : b ≠ D := fun e2 => by rw [e2, wo_at] at e; cases e
        rw [upd_ne nbD]
        exact b4 b o (b3 b o e n) n
      · rw [wo_upd_ne nDp]
        refine DictW.put m2 m3 (sd_woT m1 (fun y c hyc => ?_) hx hg)
        obtain ⟨v, _, hv⟩ := m3 y c hyc
        exact ⟨v, hv.same wo_same⟩
      · rw [putL_new x hzt, List.map_append, kl, take_succ_get hz]
        rfl
      · rw [lookup_putL] at hv
        by_cases e : y = z
        · rw [if_pos e] at hv
          cases hv
          exact hg
        · rw [if_neg e] at hv
          exact gl y v hv
      · rw [lookup_putL] at hv
        by_cases e : y = z
        · rw [if_pos e] at hv
          cases hv
          exact hx4
        · rw [if_neg e] at hv
          exact sl y v hv
    · rintro σ H3 ⟨v6, l, rfl, b3, p3, hDW, kl, gl, fl, sl⟩
      rw [List.length_map, Int.toNat_natCast, List.take_length] at kl
      walk_at "go"
      exact k H3 D l (fun b o e n => b3 b o (by rw [wo_ne (ne_of_none e hD0)]; exact b2 b o e n) n) p3 hD0 nDp (hDW.of monoS) kl gl (fl (by simp)) sl
theorem ok_l_build {f : Addr} {fd : FuncData} (F : Fun K "_law_build" "_law_build" s_l_build f fd) (C_l_open : Cal P w K mg base 1 "_law_open" ["_law_script", "_law_k"] (spOpen K)) (C_draw : Cal P w K mg base 1 "_law_draw" ["_law_drawer", "_law_many"] spDraw)
    (C_l_names : Cal P w K mg base 2 "_law_names" ["_law_drawer", "_law_many"] spNames) (C_l_stands : Cal P w K mg base 4 "_law_stands" ["_law_drawer", "_law_names_here", "_law_hands", "_law_rings"] spStands) : FnOk P w K mg base CX0 5 f fd ["_law_script"] (spBuild K) := by
  refine F.ok sc_l_build (fun vs H Q E h => ?_) (fun cdv A outer s H vs Q E hr h => ?_)
  · obtain ⟨_, _, rfl, _⟩ := h
    rfl
  · obtain ⟨a, sc, rfl, hS, hlen, k⟩ := h
    refine ⟨_, (pss_cons (ps_set (i := 1) sc_l_build.nd rfl (Or.inl rfl) (pe_cal C_l_open (hr.mono (by decide)) (by rfl) (pa_cons (pv 0) (pa_cons pe_int pa_nil))))
      (pss_cons (ps_set (i := 2) sc_l_build.nd rfl (Or.inl rfl) (pe_ix ix_list (pe_lst (pa_cons pe_int (pa_cons pe_int (pa_cons pe_int (pa_cons pe_int (pa_cons pe_int (pa_cons pe_int (pa_cons pe_int (pa_cons pe_int pa_nil))))))))) (pe_cal C_draw (hr.mono (by decide)) (by rfl) (pa_cons (pv 1) (pa_cons pe_int pa_nil))) (fun _ _ => rfl)))
      (pss_cons (ps_set (i := 3) sc_l_build.nd rfl (Or.inl rfl) (pe_ix ix_list (pe_lst (pa_cons pe_int (pa_cons pe_int (pa_cons pe_int (pa_cons pe_int (pa_cons pe_int (pa_cons pe_int (pa_cons pe_int (pa_cons pe_int (pa_cons pe_int (pa_cons pe_int (pa_cons pe_int (pa_cons pe_int (pa_cons pe_int (pa_cons pe_int (pa_cons pe_int (pa_cons pe_int pa_nil))))))))))))))))) (pe_cal C_draw (hr.mono (by decide)) (by rfl) (pa_cons (pv 1) (pa_cons pe_int pa_nil))) (fun _ _ => rfl)))
      (pss_cons (ps_set (i := 4) sc_l_build.nd rfl (Or.inl rfl) (pe_cmpR op_eq (pe_cal C_draw (hr.mono (by decide)) (by rfl) (pa_cons (pv 1) (pa_cons pe_int pa_nil))) pe_int (nomark _)))
      (pss_cons (ps_set (i := 5) sc_l_build.nd rfl (Or.inl rfl) (pe_cal C_l_names (hr.mono (by decide)) (by rfl) (pa_cons (pv 1) (pa_cons (pv 3) pa_nil))))
      (pss_one (ps_ret (pe_lst (pa_cons (pv 2) (pa_cons (pv 5) (pa_cons (pe_cal C_l_stands (hr.mono (by decide)) (by rfl) (pa_cons (pv 1) (pa_cons (pv 5) (pa_cons (pv 2) (pa_cons (pv 4) pa_nil))))) pa_nil))))))))))), ?_⟩
    walk_at "go"
    refine ⟨a, sc, 1, rfl, hS, hlen, by decide, by decide, fun H1 p s1 hp0 p1 => ?_⟩
    walk_at "go"
    refine ⟨sz_le (by simp), fun l1 hl1 => ?_⟩
    have p2 := p1.new (o := .lst [.int 1, .int 2, .int 3, .int 2, .int 3, .int 4, .int 2, .int 1]) hl1
    walk_at "go"
    refine ⟨p, 8, rfl, p2, by decide, by decide, fun H3 j b3 p3 j0 j1 => ?_⟩
    obtain ⟨h, hh, hhm⟩ := pickI [1, 2, 3, 2, 3, 4, 2, 1] j0 j1
    have hh4 : 1 ≤ h ∧ h ≤ 4 := by simp at hhm; omega
    refine x_ixl j.toNat (SqL.of (b3 l1 _ upd_same (p1.ne hl1))) (by omega) hh ?_
    have b13 : But p H1 H3 := (But.of_same (same_new hl1)).trans b3
    walk_at "go"
    refine ⟨sz_le (by simp), fun l2 hl2 => ?_⟩
    have p4 := p3.new (o := .lst [.int 4, .int 5, .int 6, .int 7, .int 8, .int 5, .int 6, .int 3, .int 4, .int 2, .int 1, .int 7, .int 8, .int 6, .int 5, .int 4]) hl2
    walk_at "go"
    refine ⟨p, 16, rfl, p4, by decide, by decide, fun H5 u b5 p5 u0 u1 => ?_⟩
    obtain ⟨many, hmany, hmm⟩ := pickI [4, 5, 6, 7, 8, 5, 6, 3, 4, 2, 1, 7, 8, 6, 5, 4] u0 u1
    have hm8 : 1 ≤ many ∧ many ≤ 8 := by simp at hmm; omega
    refine x_ixl u.toNat (SqL.of (b5 l2 _ upd_same (p3.ne hl2))) (by omega) hmany ?_
    have b15 : But p H1 H5 := b13.trans ((But.of_same (same_new hl2)).trans b5)
    walk_at "go"
    refine ⟨p, 2, rfl, p5, by decide, by decide, fun H6 y b6 p6 y0 y1 => ?_⟩
    walk_at "go"
    refine ⟨p, many, rfl, p6, by omega, by omega, fun H7 q ns b7 p7 hq0 hq nl nn nd nzz => ?_⟩
    have nqp : q ≠ p := p6.ne hq0
    walk_at "go"
    refine ⟨p, q, h, decide (y = 0), ns, rfl, p7, hq, nqp, by omega, by omega, nn, nd, hh4.1, hh4.2, fun H8 D l b8 p8 hD nDp hT kl gl fl sl => ?_⟩
    have ll : l.length = ns.length := by
      have := congrArg List.length kl
      rwa [List.length_map] at this
    walk_at "go"
    refine ⟨sz_le (by simp), fun r hr0 => ?_⟩
    have sr : L2.Same H8 (upd H8 r (.lst [.int h, .ref q, .ref D])) := same_new hr0
    have b18 : But p H1 H8 := ((b15.trans b6).trans b7).trans b8
    refine k _ r q D h ns l (fun b o e => sr _ _ (b18 b o (s1 b o e) (ne_of_none e hp0))) upd_same (sr _ _ (b8 q _ hq nqp)) ((hT.same wo_same).same sr) ⟨by rw [kl]; exact nd, by omega, by omega, fun z hz => nn z (by rw [← kl]; exact hz), fun z x hx => by rw [kl]; exact gl z x hx⟩ kl hh4.1 hh4.2 (by omega) fl nzz sl
end
/-! ### the law's mover -/
theorem x_asgT {te : TE} {K : PySem.W.Frag} {k : Nat} {gs : TGs} {σ : L2.St} {H : Hp} {n : L2.St → Hp → Prop} {r : VK} {b c : L2.St → Hp → Prop} (h : te σ H fun v H1 => gTup K k gs v σ H1 n) : tAsg te (gTup K k gs) ⟨n, r, b, c⟩ σ H := h
def spMoverL : Sp := fun vs H Q _ => ∃ (D : Addr) (z : Str) (l : List (Str × Sd)) (x : Sd), vs = [.ref D, .str z] ∧ TabRd H D l ∧ l.lookup z = some x ∧ Q (moverV x) H
def mvIn (lot : List Int) : Sd → Bool
  | .hand k _ => decide (k ∈ lot)
  | _ => false
theorem inV_non (ws : List Int) : inV .non (intsV ws) = false := by
  induction ws with
  | nil => rfl
  | cons a r ih => exact ih
theorem x_inMv {K : PySem.W.Frag} {H : Hp} {Q : VK} {p : Addr} {lot : List Int} {x : Sd} (h : SqT K H p (intsV lot)) (q : Q (.bl (mvIn lot x)) H) : rIn K false (moverV x) (.ref p) H Q := by
  cases x with
  | fin => exact ⟨p, _, rfl, .inr h, rfl, flat_ints lot, by show Q (.bl (inV .non (intsV lot))) H; rw [inV_non]; exact q⟩
  | chance _ => exact ⟨p, _, rfl, .inr h, rfl, flat_ints lot, by show Q (.bl (inV .non (intsV lot))) H; rw [inV_non]; exact q⟩
  | hand k _ => exact x_inTi h q
section
variable {P : Program} {w : World} {K : PySem.W.Frag} {mg : Str → Option Value} {base : Heap} {CW : Addr}
theorem ok_l_mover {f : Addr} {fd : FuncData} (F : Fun K "_law_mover" "_law_mover" s_l_mover f fd) : FnOk P w K mg base CX0 1 f fd ["_law_stands_here", "_law_stand_here"] spMoverL := by
  refine F.ok sc_l_mover (fun vs H Q E h => ?_) (fun cdv A outer s H vs Q E hr h => ?_)
  · obtain ⟨_, _, _, _, rfl, _⟩ := h
    rfl
  · obtain ⟨D, z, l, x, rfl, hT, hz, q⟩ := h
    have hu := hu_of hr
    obtain ⟨m, b, hm, hb, hx⟩ := hT.at hz
    refine ⟨_, (pss_cons (ps_if (pt_cmpR op_eq (pe_ix ix_tup (pe_dget hu (pv 0) (pv 1) (fun _ _ => rfl)) pe_int (fun _ _ => rfl)) pe_str (nomark _))
      (pss_one (ps_ret (pe_ix ix_tup (pe_dget hu (pv 0) (pv 1) (fun _ _ => rfl)) pe_int (fun _ _ => rfl))))
      pss_nil)
      (pss_one (ps_ret pe_non))), ?_⟩
    walk_at "go"
    refine x_getL hm hb ?_
    walk_at "go"
    cases x with
    | fin =>
      have hb1 : H b = some (.tup [.str "end"]) := hx
      refine x_ixt 0 (SqT.of hb1) rfl rfl ?_
      walk_at "go"
      refine x_no (by decide +kernel) ?_
      walk_at "go"
      exact q
    | chance l2 =>
      obtain ⟨d2, hb1, _⟩ := hx
      refine x_ixt 0 (SqT.of hb1) rfl rfl ?_
      walk_at "go"
      refine x_no (by decide +kernel) ?_
      walk_at "go"
      exact q
    | hand k2 l2 =>
      obtain ⟨d2, hb1, _⟩ := hx
      refine x_ixt 0 (SqT.of hb1) rfl rfl ?_
      walk_at "go"
      refine x_yes rfl ?_
      walk_at "go"
      refine x_getL hm hb ?_
      walk_at "go"
      refine x_ixt 1 (SqT.of hb1) rfl rfl ?_
      exact q
end
/-! ### family C: steps, where they lead, worths -/
def spStepsC : Sp := fun vs H Q _ => ∃ (D : Addr) (z : Str) (l : List (Str × Sd)) (x : Sd) (h : Int) (ns : List Str), vs = [.ref D, .str z] ∧ TabRd H D l ∧ l.lookup z = some x ∧ GoodSd h ns x ∧
  ∀ H' p ss, L2.Same H H' → H p = none → H' p = some (.lst (strsV ss)) → ss.Perm (stepsL x) → sortedS ss = true → Q (.ref p) H'
def spToC : Sp := fun vs H Q _ => ∃ (D : Addr) (z s t : Str) (l : List (Str × Sd)) (x : Sd), vs = [.ref D, .str z, .str s] ∧ TabRd H D l ∧ l.lookup z = some x ∧ toS x s = some t ∧ Q (.str t) H
def spWorthsC : Sp := fun vs H Q _ => ∃ (p D : Addr) (l : List (Str × Sd)) (h : Int), vs = [.ref p, .ref D] ∧ PoolAt H p ∧ DictOf SdAt (wo H p) D l ∧ D ≠ p ∧ GoodT h l ∧
  ∀ H' G wl, But p H H' → PoolAt H' p → H G = none → G ≠ p → H' G = some (.dK (strK V.int wl)) → (wl.map (·.1)).Nodup → (∀ z, z ∈ wl.map (·.1) ↔ l.lookup z = some .fin) → (∀ q ∈ wl, -96 ≤ q.2 ∧ q.2 ≤ 96) → Q (.ref G) H'
section
variable {P : Program} {w : World} {K : PySem.W.Frag} {mg : Str → Option Value} {base : Heap}
theorem ok_l_steps {f : Addr} {fd : FuncData} (F : Fun K "_law_steps" "_law_steps" s_l_steps f fd) (Z_sorted : mg "sorted" = none) (Z_len : mg "len" = none) : FnOk P w K mg base CX0 1 f fd ["_law_stands_here", "_law_stand_here"] spStepsC := by
  refine F.ok sc_l_steps (fun vs H Q E h => ?_) (fun cdv A outer s H vs Q E hr h => ?_)
  · obtain ⟨_, _, _, _, _, _, rfl, _⟩ := h
    rfl
  · obtain ⟨D, z, l, x, h, ns, rfl, hT, hz, hg, q⟩ := h
    have hu := hu_of hr
    obtain ⟨m, b, hm, hb, hx⟩ := hT.at hz
    refine ⟨_, (pss_cons (ps_set (i := 2) sc_l_steps.nd rfl (Or.inl rfl) (pe_dget hu (pv 0) (pv 1) (fun _ _ => rfl)))
      (pss_cons (ps_if (pt_cmpR op_eq (pe_ix ix_tup (pv 2) pe_int (fun _ _ => rfl)) pe_str (nomark _))
      (pss_one (ps_ret (pe_lst pa_nil)))
      pss_nil)
      (pss_one (ps_ret (pe_callB (call_sortedDA rfl) (by rfl) Z_sorted (by decide +kernel) (pa_cons (pe_ix ix_tup (pv 2) (pe_op op_sub (pe_callB call_lenA (by rfl) Z_len (by decide +kernel) (pa_cons (pv 2) pa_nil)) pe_int) (fun _ _ => rfl)) pa_nil)))))), ?_⟩
    walk_at "go"
    refine x_getL hm hb ?_
    walk_at "go"
    cases x with
    | fin =>
      have hb1 : H b = some (.tup [.str "end"]) := hx
      refine x_ixt 0 (SqT.of hb1) rfl rfl ?_
      walk_at "go"
      refine x_yes rfl ?_
      walk_at "go"
      refine ⟨by decide, fun p hp => ?_⟩
      exact q _ p [] (same_new hp) hp upd_same (List.Perm.refl _) rfl
    | chance l2 =>
      obtain ⟨d2, hb1, hD⟩ := hx
      obtain ⟨g1, g2, g3, g4⟩ := hg
      obtain ⟨m2, hd, hk, hp2⟩ := hD.ex
      have ek : (strK V.ref m2).map (·.1) = (m2.map (·.1)).map Sum.inr := by rw [List.map_map, List.map_map]; rfl
      rw [hk] at ek
      refine x_ixt 0 (SqT.of hb1) rfl rfl ?_
      walk_at "go"
      refine x_no (by decide +kernel) ?_
      walk_at "go"
      refine x_lenT (SqT.of hb1) ?_
      walk_at "go"
      refine x_ixt 1 (SqT.of hb1) rfl rfl ?_
      walk_at "go"
      refine ⟨d2, _, l2.map (·.1), rfl, .inl hd, ek, by rw [List.length_map]; omega, fun ys c hperm hsort hc => ?_⟩
      exact q _ c ys (same_new hc) hc upd_same hperm hsort
    | hand k2 l2 =>
      obtain ⟨d2, hb1, hd⟩ := hx
      obtain ⟨_, _, g1, g2, g3, g4⟩ := hg
      have ek : (strK V.str l2).map (·.1) = (l2.map (·.1)).map Sum.inr := by rw [List.map_map, List.map_map]; rfl
      refine x_ixt 0 (SqT.of hb1) rfl rfl ?_
      walk_at "go"
      refine x_no (by decide +kernel) ?_
      walk_at "go"
      refine x_lenT (SqT.of hb1) ?_
      walk_at "go"
      refine x_ixt 2 (SqT.of hb1) rfl rfl ?_
      walk_at "go"
      refine ⟨d2, _, l2.map (·.1), rfl, .inl hd, ek, by rw [List.length_map]; omega, fun ys c hperm hsort hc => ?_⟩
      exact q _ c ys (same_new hc) hc upd_same hperm hsort
theorem ok_l_to {f : Addr} {fd : FuncData} (F : Fun K "_law_to" "_law_to" s_l_to f fd) : FnOk P w K mg base CX0 1 f fd ["_law_stands_here", "_law_stand_here", "_law_step"] spToC := by
  refine F.ok sc_l_to (fun vs H Q E h => ?_) (fun cdv A outer s H vs Q E hr h => ?_)
  · obtain ⟨_, _, _, _, _, _, rfl, _⟩ := h
    rfl
  · obtain ⟨D, z, sp, t, l, x, rfl, hT, hz, ht, q⟩ := h
    have hu := hu_of hr
    obtain ⟨m, b, hm, hb, hx⟩ := hT.at hz
    refine ⟨_, (pss_cons (ps_set (i := 3) sc_l_to.nd rfl (Or.inl rfl) (pe_dget hu (pv 0) (pv 1) (fun _ _ => rfl)))
      (pss_cons (ps_if (pt_cmpR op_eq (pe_ix ix_tup (pv 3) pe_int (fun _ _ => rfl)) pe_str (nomark _))
      (pss_one (ps_ret (pe_dget hu (pe_ix ix_tup (pv 3) pe_int (fun _ _ => rfl)) (pv 2) (fun _ _ => rfl))))
      pss_nil)
      (pss_one (ps_ret (pe_ix ix_tup (pe_dget hu (pe_ix ix_tup (pv 3) pe_int (fun _ _ => rfl)) (pv 2) (fun _ _ => rfl)) pe_int (fun _ _ => rfl)))))), ?_⟩
    walk_at "go"
    refine x_getL hm hb ?_
    walk_at "go"
    cases x with
    | fin => cases ht
    | chance l2 =>
      obtain ⟨d2, hb1, hD⟩ := hx
      have h1 : (l2.lookup sp).map (·.1) = some t := ht
      cases h2 : l2.lookup sp with
      | none => rw [h2] at h1; cases h1
      | some v =>
        rw [h2] at h1
        have e : v.1 = t := Option.some.inj h1
        obtain ⟨m3, e3, hd3, he3, hpr⟩ := hD.at h2
        have hpr1 : H e3 = some (.tup [.str v.1, .int v.2]) := hpr
        refine x_ixt 0 (SqT.of hb1) rfl rfl ?_
        walk_at "go"
        refine x_no (by decide +kernel) ?_
        walk_at "go"
        refine x_ixt 1 (SqT.of hb1) rfl rfl ?_
        walk_at "go"
        refine x_getL (l := m3) (.inl hd3) he3 ?_
        walk_at "go"
        refine x_ixt 0 (SqT.of hpr1) rfl rfl ?_
        rw [e]
        exact q
    | hand k2 l2 =>
      obtain ⟨d2, hb1, hd⟩ := hx
      refine x_ixt 0 (SqT.of hb1) rfl rfl ?_
      walk_at "go"
      refine x_yes rfl ?_
      walk_at "go"
      refine x_ixt 2 (SqT.of hb1) rfl rfl ?_
      walk_at "go"
      exact x_getL (l := l2) (.inl hd) (show l2.lookup sp = some t from ht) q
end
/-! ### a lot -/
structure LotOk (h : Int) (lot : List Int) : Prop where
  asc : lot.Pairwise (· < ·)
  bd : ∀ k ∈ lot, 0 ≤ k ∧ k < h
/-! ### family C: endless, a lot, a level -/
def spEndlessC : Sp := fun vs H Q _ => ∃ (p G : Addr) (wl : List (Str × Int)), vs = [.ref p, .ref G] ∧ PoolAt H p ∧ H G = some (.dK (strK V.int wl)) ∧ G ≠ p ∧ (wl.map (·.1)).Nodup ∧ 1 ≤ wl.length ∧ wl.length ≤ 100 ∧ (∀ q ∈ wl, -96 ≤ q.2 ∧ q.2 ≤ 96) ∧
  ∀ H' e, But p H H' → PoolAt H' p → -98 ≤ e → e ≤ 98 → Side e wl → Q (.int e) H'
def spLotC : Sp := fun vs H Q _ => ∃ (p : Addr) (h : Int), vs = [.ref p, .int h] ∧ PoolAt H p ∧ 1 ≤ h ∧ h ≤ 4 ∧
  ∀ H' a lot, But p H H' → PoolAt H' p → H a = none → a ≠ p → H' a = some (.tup (intsV lot)) → LotOk h lot → Q (.ref a) H'
/-- the worths as a list, in the order of the names ys -/
theorem vals_perm {wl : List (Str × Int)} {ys : List Str} (nd : (wl.map (·.1)).Nodup) (hp : ys.Perm (wl.map (·.1))) (v : Int) : v ∈ ys.map (fun z => (wl.lookup z).getD 0) ↔ ∃ q ∈ wl, q.2 = v := by
  constructor
  · intro h
    obtain ⟨z, hz, e⟩ := List.mem_map.mp h
    obtain ⟨x, hx⟩ := lookup_isSome (hp.mem_iff.mp hz)
    rw [hx] at e
    exact ⟨_, lookup_mem hx, e⟩
  · rintro ⟨q, hq, e⟩
    refine List.mem_map.mpr ⟨q.1, hp.mem_iff.mpr (List.mem_map.mpr ⟨q, hq, rfl⟩), ?_⟩
    rw [lookup_of nd (z := q.1) (x := q.2) hq]
    exact e
/-- [d[z] for z in sorted(d)], d a dict of ints -/
theorem lc_sortedI {K : PySem.W.Frag} {σ : L2.St} {H : Hp} {Qd : Addr → Hp → Prop} {d : Addr} {wl : List (Str × Int)} {j n : Nat} (hd : H d = some (.dK (strK V.int wl))) (hnd : (wl.map (·.1)).Nodup) (hl : wl.length ≤ 100) (hj : j ≠ n) (hn : n < σ.length)
    (h2 : σ[j]? = some (some (.ref d))) (k : ∀ (H' : Hp) (D : Addr) (ys : List Str), L2.Same H H' → H D = none → ys.Perm (wl.map (·.1)) → H' D = some (.lst (intsV (ys.map fun z => (wl.lookup z).getD 0))) → Qd D H') :
    rSortDA [.ref d] H fun x H1 => RunL K (fun J H1 => ∀ D, H1 D = none → LcP J (gName n) tYes (tDGet (tVar j) (tVar n)) [n] σ D (Qd D) H1) x H1 := by
  have ek : (strK V.int wl).map (·.1) = (wl.map (·.1)).map Sum.inr := by rw [List.map_map, List.map_map]; rfl
  refine ⟨d, _, wl.map (·.1), rfl, .inl hd, ek, by rw [List.length_map]; omega, fun ys c hperm hsort hc => runL (SqL.of upd_same) fun D hD => ?_⟩
  have ncD : c ≠ D := ne_of_none upd_same hD
  have hD0 : H D = none := by rw [upd_ne ncD.symm] at hD; exact hD
  have yl : ys.length ≤ 100 := by rw [hperm.length_eq, List.length_map]; exact hl
  refine lcL (xs := strsV ys) (fun t H' => L2.Same H H' ∧ H' c = some (.lst (strsV ys)) ∧ H' D = some (.lst (intsV ((ys.take t).map fun z => (wl.lookup z).getD 0)))) ⟨same_upd (same_new hc) hD0, by rw [upd_ne ncD]; exact upd_same, upd_same⟩ (fun t H' _ h => SqL.of h.2.1) ?_ ?_
  · rintro t x H' hx ⟨s4, hc4, hD4⟩
    rw [List.getElem?_map] at hx
    cases hz : ys[t]? with
    | none => rw [hz] at hx; cases hx
    | some z =>
      rw [hz] at hx
      have ex : V.str z = x := Option.some.inj hx
      subst ex
      have hzm : z ∈ wl.map (·.1) := hperm.mem_iff.mp (List.mem_of_getElem? hz)
      obtain ⟨v, hv⟩ := lookup_isSome hzm
      refine x_g1 ⟨?_, x_yes1 (x_T (x_dget (x_var (v := .ref d) ?_ (x_var (v := .str z) ?_ (x_getL (l := wl) (.inl (s4 _ _ hd)) hv ⟨_, hD4, sz_lt (by rw [List.length_map, List.length_map, List.length_take]; omega), same_upd s4 hD0, by rw [upd_ne ncD]; exact hc4, ?_⟩)))))⟩
      · show ((σ.set n none).set n (some (.str z))).set n none = σ.set n none
        rw [List.set_set, List.set_set]
      · show ((σ.set n none).set n _)[j]? = _
        rw [List.getElem?_set_ne hj.symm, List.getElem?_set_ne hj.symm]
        exact h2
      · show ((σ.set n none).set n _)[n]? = _
        rw [List.getElem?_set_self (by rw [List.length_set]; exact hn)]
      · rw [upd_same, take_succ_get hz]
        simp [hv]
  · rintro H' ⟨s4, hc4, hD4⟩
    rw [List.length_map, List.take_length] at hD4
    exact k H' D ys s4 hD0 hperm hD4
section
variable {P : Program} {w : World} {K : PySem.W.Frag} {mg : Str → Option Value} {base : Heap}
/-- a level: a fraction -/
structure LvOk (b : Int × Int) : Prop where
  d1 : 1 ≤ b.2
  d2 : b.2 ≤ 10 ^ 27
  t1 : -(10 ^ 30) ≤ b.1
  t2 : b.1 ≤ 10 ^ 30
  gc : Nat.gcd b.1.natAbs b.2.natAbs = 1
def spLevelC : Sp := fun vs H Q _ => ∃ (p G : Addr) (e : Int) (wl : List (Str × Int)), vs = [.ref p, .ref G, .int e] ∧ PoolAt H p ∧ H G = some (.dK (strK V.int wl)) ∧ G ≠ p ∧ (wl.map (·.1)).Nodup ∧ wl.length ≤ 100 ∧ (∀ q ∈ wl, -96 ≤ q.2 ∧ q.2 ≤ 96) ∧ -98 ≤ e ∧ e ≤ 98 ∧
  ∀ H' a b, But p H H' → PoolAt H' p → H a = none → a ≠ p → H' a = some (.tup [.int b.1, .int b.2]) → LvOk b → Q (.ref a) H'
theorem gcd_near {x n : Nat} (h : x % n = 1 ∨ (n ≠ 1 ∧ (x + 1) % n = 0)) (hn : 1 ≤ n) : Nat.gcd x n = 1 := by
  have hd : Nat.gcd x n ∣ 1 := by
    have g1 : Nat.gcd x n ∣ x := Nat.gcd_dvd_left _ _
    have g2 : Nat.gcd x n ∣ n := Nat.gcd_dvd_right _ _
    rcases h with h | ⟨_, h⟩
    · have e : x = n * (x / n) + 1 := by
        have := Nat.div_add_mod x n
        omega
      have h3 : Nat.gcd x n ∣ n * (x / n) := Nat.dvd_trans g2 (Nat.dvd_mul_right _ _)
      have g3 : Nat.gcd x n ∣ n * (x / n) + 1 := by
        rw [← e]
        exact g1
      exact (Nat.dvd_add_right h3).mp g3
    · have h3 : n ∣ x + 1 := Nat.dvd_of_mod_eq_zero h
      exact (Nat.dvd_add_right g1).mp (Nat.dvd_trans g2 h3)
  exact Nat.dvd_one.mp hd
end
/-! ### steps and where they lead -/
theorem all_mem_eq {a b : List Str} (f : Str → Bool) (h : ∀ t, t ∈ a ↔ t ∈ b) : a.all f = b.all f := by
  cases e : b.all f with
  | true => exact List.all_eq_true.mpr fun t ht => List.all_eq_true.mp e t ((h t).mp ht)
  | false =>
    obtain ⟨t, ht, hf⟩ := List.all_eq_false.mp e
    exact List.all_eq_false.mpr ⟨t, (h t).mpr ht, hf⟩
theorem steps_leads {h : Int} {ns : List Str} {x : Sd} (g : GoodSd h ns x) {ps : List (Str × Str)} (hp : (ps.map (·.1)).Perm (stepsL x)) (ht : ∀ q ∈ ps, toS x q.1 = some q.2) (t : Str) : t ∈ ps.map (·.2) ↔ t ∈ leadsL x := by
  have back : ∀ s, s ∈ stepsL x → toS x s = some t → t ∈ ps.map (·.2) := fun s hs he => by
    obtain ⟨q, hq, e⟩ := List.mem_map.mp (hp.mem_iff.mpr hs)
    have := ht q hq
    rw [e, he] at this
    exact List.mem_map.mpr ⟨q, hq, (Option.some.inj this).symm⟩
  cases x with
  | fin =>
    constructor
    · intro h
      obtain ⟨q, hq, _⟩ := List.mem_map.mp h
      have h1 : q.1 ∈ stepsL Sd.fin := hp.mem_iff.mp (List.mem_map.mpr ⟨q, hq, rfl⟩)
      cases h1
    · intro h
      cases h
  | hand k l =>
    constructor
    · intro h
      obtain ⟨q, hq, e⟩ := List.mem_map.mp h
      have h1 : l.lookup q.1 = some q.2 := ht q hq
      exact List.mem_map.mpr ⟨_, lookup_mem h1, e⟩
    · intro h
      obtain ⟨q, hq, e⟩ := List.mem_map.mp (show t ∈ l.map (·.2) from h)
      refine back q.1 (List.mem_map.mpr ⟨q, hq, rfl⟩) ?_
      show l.lookup q.1 = some t
      rw [← e]
      exact lookup_of g.2.2.1 (z := q.1) (x := q.2) hq
  | chance l =>
    constructor
    · intro h
      obtain ⟨q, hq, e⟩ := List.mem_map.mp h
      have h1 : (l.lookup q.1).map (·.1) = some q.2 := ht q hq
      cases h2 : l.lookup q.1 with
      | none => rw [h2] at h1; cases h1
      | some v =>
        rw [h2] at h1
        exact List.mem_map.mpr ⟨_, lookup_mem h2, (Option.some.inj h1).trans e⟩
    · intro h
      obtain ⟨q, hq, e⟩ := List.mem_map.mp (show t ∈ l.map (·.2.1) from h)
      refine back q.1 (List.mem_map.mpr ⟨q, hq, rfl⟩) ?_
      show (l.lookup q.1).map (·.1) = some t
      rw [lookup_of g.1 (z := q.1) (x := q.2) hq, ← e]
      rfl
theorem steps_len {h : Int} {ns : List Str} {x : Sd} (g : GoodSd h ns x) {ps : List (Str × Str)} (hp : (ps.map (·.1)).Perm (stepsL x)) : ps.length ≤ 4 := by
  have e := hp.length_eq
  rw [List.length_map] at e
  have e2 := leads_len g
  have e3 : (stepsL x).length = (leadsL x).length := by
    cases x with
    | fin => rfl
    | chance l => show (l.map _).length = (l.map _).length; rw [List.length_map, List.length_map]
    | hand k l => show (l.map _).length = (l.map _).length; rw [List.length_map, List.length_map]
  omega
theorem lead_at {l : List (Str × Sd)} {z : Str} {x : Sd} (h : l.lookup z = some x) : leadOf l z = leadsL x := by
  unfold leadOf
  rw [h]
  rfl
theorem same_both {H H' : Hp} {D : Addr} {v : HO} (s : L2.Same H H') : L2.Same (upd H D v) (upd H' D v) := fun b o e => by
  by_cases hb : b = D
  · subst hb
    rw [upd_same] at e ⊢
    exact e
  · rw [upd_ne hb] at e ⊢
    exact s b o e
theorem good_closed {h : Int} {l : List (Str × Sd)} (g : GoodT h l) : ∀ z ∈ l.map (·.1), ∀ t ∈ leadOf l z, t ∈ l.map (·.1) := fun z hz t ht => by
  obtain ⟨x, hx⟩ := lookup_isSome hz
  rw [lead_at hx] at ht
  have gx := g.sd z x hx
  cases x with
  | fin => cases ht
  | chance l2 =>
    obtain ⟨q, hq, e⟩ := List.mem_map.mp (show t ∈ l2.map (·.2.1) from ht)
    rw [← e]
    exact (gx.2.2.2 q hq).2.1
  | hand k l2 =>
    obtain ⟨q, hq, e⟩ := List.mem_map.mp (show t ∈ l2.map (·.2) from ht)
    rw [← e]
    exact (gx.2.2.2.2.2 q hq).2
/-! ### displays of dicts -/
theorem x_disp {trs : List (TE × TE)} {σ : L2.St} {H : Hp} {Q : VK} (h : ∀ p, H p = none → tPairs trs σ (upd H p (.dK [])) fun ps H2 => H2 p = some (.dK []) ∧ ∃ kvs : List (Key × V), ps = kvs.map (fun kv => (kV kv.1, kv.2)) ∧ kvs.length ≤ 15 ∧ Q (.ref p) (upd H2 p (.dK (mergeK [] kvs)))) : tDisp trs σ H Q := h
theorem x_prs {tk tv : TE} {r : List (TE × TE)} {σ : L2.St} {H : Hp} {R : List (V × V) → Hp → Prop} (h : tk σ H fun x H1 => tv σ H1 fun y H2 => tPairs r σ H2 fun ps H3 => R ((x, y) :: ps) H3) : tPairs ((tk, tv) :: r) σ H R := h
theorem x_prs0 {σ : L2.St} {H : Hp} {R : List (V × V) → Hp → Prop} (h : R [] H) : tPairs [] σ H R := h
theorem merge1 {z : Str} {v : V} : mergeK [] [((Sum.inr z : Key), v)] = [(Sum.inr z, v)] := rfl
theorem merge2 {z y : Str} {v u : V} (n : z ≠ y) : mergeK [] [((Sum.inr z : Key), v), (Sum.inr y, u)] = [(Sum.inr z, v), (Sum.inr y, u)] := by
  show putK [((Sum.inr z : Key), v)] (Sum.inr y) u = _
  unfold putK
  rw [if_neg (by simp [n])]
  rfl
theorem nm_on : NameS "on" := nameL_iff.mp (by decide +kernel)
theorem nm_off : NameS "off" := nameL_iff.mp (by decide +kernel)
theorem nm_h : NameS "h" := nameL_iff.mp (by decide +kernel)
theorem nm_t : NameS "t" := nameL_iff.mp (by decide +kernel)
section
variable {P : Program} {w : World} {K : PySem.W.Frag} {mg : Str → Option Value} {base : Heap} {CW : Addr}
theorem ok_Work_row {f : Addr} {fd : FuncData} (F : Fun K "row" "Work.row" s_Work_row f fd) (K_Work : Cls K CW) (N1 : NoAttr K CW "table") (Z_str : mg "str" = none) (Z_isinstance : mg "isinstance" = none) : FnOk P w K mg base CX0 1 f fd ["self", "stand"] (spRow CW) := by
  refine F.ok sc_Work_row (fun vs H Q E h => ?_) (fun cdv A outer s H vs Q E hr h => ?_)
  · obtain ⟨_, _, _, _, _, _, rfl, _⟩ := h
    rfl
  · obtain ⟨a, h, st, z, l, x, rfl, wa, hz, q⟩ := h
    obtain ⟨dx, t, n, e, h1, hT, _, _⟩ := wa.ex
    obtain ⟨m, b, hm, hb, hx⟩ := hT.at hz
    have hu := hu_of hr
    refine ⟨_, (pss_cons (ps_if (PW.pt (pw_or (pt_not (pt_val (pe_callB call_isi (by rfl) Z_isinstance (by decide +kernel) (pa_cons (pv 1) (pa_cons (pe_bltn (v := .ty "str") (by rfl) Z_str (by decide +kernel) rfl) pa_nil))))) (pw_or1 (pt_cmp (pc_dnotin hu (pv 1) (pe_fld (pv 0) rfl))))))
      (pss_one ps_never)
      pss_nil)
      (pss_one (ps_ret (pe_dget hu (pe_fld (pv 0) rfl) (pv 1) (fun _ _ => rfl))))), ?_⟩
    walk_at "go"
    refine x_isiStr (.str _) ?_
    walk_at "go"
    refine x_nT ?_
    walk_at "go"
    refine x_fld K_Work N1 h1 wkF_table ?_
    walk_at "go"
    refine x_ninD (l := m) hm ?_
    rw [hb]
    refine ⟨false, rfl, x_F ?_⟩
    walk_at "go"
    refine x_fld K_Work N1 h1 wkF_table ?_
    walk_at "go"
    refine x_getL hm hb ?_
    exact q b hx
theorem ok_Work_kind {f : Addr} {fd : FuncData} (F : Fun K "kind" "Work.kind" s_Work_kind f fd) (K_Work : Cls K CW) (T_Work_row : Met P w K mg base CW 1 "row" ["self", "stand"] (spRow CW)) : FnOk P w K mg base CX0 2 f fd ["self", "stand"] (spKind CW) := by
  refine F.ok sc_Work_kind (fun vs H Q E h => ?_) (fun cdv A outer s H vs Q E hr h => ?_)
  · obtain ⟨_, _, _, _, _, _, rfl, _⟩ := h
    rfl
  · obtain ⟨a, h, st, z, l, x, rfl, wa, hz, q⟩ := h
    obtain ⟨dx, t, n, e, h1, _⟩ := id wa.ex
    refine ⟨_, (pss_one (ps_ret (pe_ix ix_tup (pe_mt T_Work_row K_Work (hr.mono (by decide)) (pv 0) (pa_cons (pv 1) pa_nil)) pe_int (fun _ _ => rfl)))), ?_⟩
    walk_at "go"
    refine x_mti h1 (wkF_none (by decide +kernel) (by decide +kernel) (by decide +kernel) (by decide +kernel) (by decide +kernel) (by decide +kernel)) ?_
    walk_at "go"
    refine ⟨a, h, st, z, l, x, rfl, wa, hz, fun b hb => ?_⟩
    obtain ⟨xs, hx1, hx2⟩ := sd_tup hb
    walk_at "go"
    refine x_ixt 0 (SqT.of hx1) rfl hx2 ?_
    exact q
theorem ok_Work_mover {f : Addr} {fd : FuncData} (F : Fun K "mover" "Work.mover" s_Work_mover f fd) (K_Work : Cls K CW) (T_Work_row : Met P w K mg base CW 1 "row" ["self", "stand"] (spRow CW)) : FnOk P w K mg base CX0 2 f fd ["self", "stand"] (spMover CW) := by
  refine F.ok sc_Work_mover (fun vs H Q E h => ?_) (fun cdv A outer s H vs Q E hr h => ?_)
  · obtain ⟨_, _, _, _, _, _, rfl, _⟩ := h
    rfl
  · obtain ⟨a, h, st, z, l, x, rfl, wa, hz, q⟩ := h
    obtain ⟨dx, t, n, e, h1, _⟩ := id wa.ex
    refine ⟨_, (pss_cons (ps_set (i := 2) sc_Work_mover.nd rfl (Or.inl rfl) (pe_mt T_Work_row K_Work (hr.mono (by decide)) (pv 0) (pa_cons (pv 1) pa_nil)))
      (pss_cons (ps_if (pt_cmpR op_eq (pe_ix ix_tup (pv 2) pe_int (fun _ _ => rfl)) pe_str (nomark _))
      (pss_one (ps_ret (pe_ix ix_tup (pv 2) pe_int (fun _ _ => rfl))))
      pss_nil)
      (pss_one (ps_ret pe_non)))), ?_⟩
    walk_at "go"
    refine x_mti h1 (wkF_none (by decide +kernel) (by decide +kernel) (by decide +kernel) (by decide +kernel) (by decide +kernel) (by decide +kernel)) ?_
    walk_at "go"
    refine ⟨a, h, st, z, l, x, rfl, wa, hz, fun b hb => ?_⟩
    walk_at "go"
    cases x with
    | fin =>
      have hb1 : H b = some (.tup [.str "end"]) := hb
      refine x_ixt 0 (SqT.of hb1) rfl rfl ?_
      walk_at "go"
      refine x_no (by decide +kernel) ?_
      walk_at "go"
      exact q
    | chance l2 =>
      obtain ⟨d2, hb1, _⟩ := hb
      refine x_ixt 0 (SqT.of hb1) rfl rfl ?_
      walk_at "go"
      refine x_no (by decide +kernel) ?_
      walk_at "go"
      exact q
    | hand k2 l2 =>
      obtain ⟨d2, hb1, _⟩ := hb
      refine x_ixt 0 (SqT.of hb1) rfl rfl ?_
      walk_at "go"
      refine x_yes rfl ?_
      walk_at "go"
      refine x_ixt 1 (SqT.of hb1) rfl rfl ?_
      exact q
theorem ok_Work_steps {f : Addr} {fd : FuncData} (F : Fun K "steps" "Work.steps" s_Work_steps f fd) (K_Work : Cls K CW) (Z_len : mg "len" = none) (Z_sorted : mg "sorted" = none) (T_Work_row : Met P w K mg base CW 1 "row" ["self", "stand"] (spRow CW)) : FnOk P w K mg base CX0 2 f fd ["self", "stand"] (spSteps CW) := by
  refine F.ok sc_Work_steps (fun vs H Q E h => ?_) (fun cdv A outer s H vs Q E hr h => ?_)
  · obtain ⟨_, _, _, _, _, _, rfl, _⟩ := h
    rfl
  · obtain ⟨a, h, st, z, l, x, rfl, wa, hz, hg, hso, q⟩ := h
    obtain ⟨dx, t, n, e, h1, _⟩ := id wa.ex
    refine ⟨_, (pss_cons (ps_set (i := 2) sc_Work_steps.nd rfl (Or.inl rfl) (pe_mt T_Work_row K_Work (hr.mono (by decide)) (pv 0) (pa_cons (pv 1) pa_nil)))
      (pss_cons (ps_if (pt_cmpR op_eq (pe_ix ix_tup (pv 2) pe_int (fun _ _ => rfl)) pe_str (nomark _))
      (pss_one (ps_ret (pe_lst pa_nil)))
      pss_nil)
      (pss_one (ps_ret (pe_callB (call_sortedDA rfl) (by rfl) Z_sorted (by decide +kernel) (pa_cons (pe_ix ix_tup (pv 2) (pe_op op_sub (pe_callB call_lenA (by rfl) Z_len (by decide +kernel) (pa_cons (pv 2) pa_nil)) pe_int) (fun _ _ => rfl)) pa_nil)))))), ?_⟩
    walk_at "go"
    refine x_mti h1 (wkF_none (by decide +kernel) (by decide +kernel) (by decide +kernel) (by decide +kernel) (by decide +kernel) (by decide +kernel)) ?_
    walk_at "go"
    refine ⟨a, h, st, z, l, x, rfl, wa, hz, fun b hb => ?_⟩
    walk_at "go"
    cases x with
    | fin =>
      have hb1 : H b = some (.tup [.str "end"]) := hb
      refine x_ixt 0 (SqT.of hb1) rfl rfl ?_
      walk_at "go"
      refine x_yes rfl ?_
      walk_at "go"
      refine ⟨by decide, fun p hp => ?_⟩
      exact q _ p (same_new hp) hp upd_same
    | chance l2 =>
      obtain ⟨d2, hb1, hD⟩ := hb
      obtain ⟨g1, g2, g3, g4⟩ := hg
      obtain ⟨m, hd, hk, _⟩ := hD.ex
      have ek : (strK V.ref m).map (·.1) = (m.map (·.1)).map Sum.inr := by rw [List.map_map, List.map_map]; rfl
      rw [hk] at ek
      refine x_ixt 0 (SqT.of hb1) rfl rfl ?_
      walk_at "go"
      refine x_no (by decide +kernel) ?_
      walk_at "go"
      refine x_lenT (SqT.of hb1) ?_
      walk_at "go"
      refine x_ixt 1 (SqT.of hb1) rfl rfl ?_
      walk_at "go"
      refine ⟨d2, _, l2.map (·.1), rfl, .inl hd, ek, by rw [List.length_map]; omega, fun ys p hperm hsort hp => ?_⟩
      have ey : ys = l2.map (·.1) := sorted_one hsort hso hperm
      subst ey
      exact q _ p (same_new hp) hp upd_same
    | hand k2 l2 =>
      obtain ⟨d2, hb1, hd⟩ := hb
      obtain ⟨_, _, g1, g2, g3, g4⟩ := hg
      have ek : (strK V.str l2).map (·.1) = (l2.map (·.1)).map Sum.inr := by rw [List.map_map, List.map_map]; rfl
      refine x_ixt 0 (SqT.of hb1) rfl rfl ?_
      walk_at "go"
      refine x_no (by decide +kernel) ?_
      walk_at "go"
      refine x_lenT (SqT.of hb1) ?_
      walk_at "go"
      refine x_ixt 2 (SqT.of hb1) rfl rfl ?_
      walk_at "go"
      refine ⟨d2, _, l2.map (·.1), rfl, .inl hd, ek, by rw [List.length_map]; omega, fun ys p hperm hsort hp => ?_⟩
      have ey : ys = l2.map (·.1) := sorted_one hsort hso hperm
      subst ey
      exact q _ p (same_new hp) hp upd_same
theorem ok_Work_to {f : Addr} {fd : FuncData} (F : Fun K "to" "Work.to" s_Work_to f fd) (K_Work : Cls K CW) (Z_len : mg "len" = none) (Z_str : mg "str" = none) (Z_isinstance : mg "isinstance" = none) (T_Work_row : Met P w K mg base CW 1 "row" ["self", "stand"] (spRow CW)) : FnOk P w K mg base CX0 2 f fd ["self", "stand", "step"] (spTo CW) := by
  refine F.ok sc_Work_to (fun vs H Q E h => ?_) (fun cdv A outer s H vs Q E hr h => ?_)
  · obtain ⟨_, _, _, _, _, _, _, _, rfl, _⟩ := h
    rfl
  · obtain ⟨a, h, st, z, s1, t1, l, x, rfl, wa, hz, hto, q⟩ := h
    obtain ⟨dx, t, n, e, h1, _⟩ := id wa.ex
    have hu := hu_of hr
    refine ⟨_, (pss_cons (ps_set (i := 3) sc_Work_to.nd rfl (Or.inl rfl) (pe_mt T_Work_row K_Work (hr.mono (by decide)) (pv 0) (pa_cons (pv 1) pa_nil)))
      (pss_cons (ps_if (PW.pt (pw_or (pt_cmpR op_eq (pe_ix ix_tup (pv 3) pe_int (fun _ _ => rfl)) pe_str (nomark _)) (pw_or (pt_not (pt_val (pe_callB call_isi (by rfl) Z_isinstance (by decide +kernel) (pa_cons (pv 2) (pa_cons (pe_bltn (v := .ty "str") (by rfl) Z_str (by decide +kernel) rfl) pa_nil))))) (pw_or1 (pt_cmp (pc_dnotin hu (pv 2) (pe_ix ix_tup (pv 3) (pe_op op_sub (pe_callB call_lenA (by rfl) Z_len (by decide +kernel) (pa_cons (pv 3) pa_nil)) pe_int) (fun _ _ => rfl))))))))
      (pss_one ps_never)
      pss_nil)
      (pss_cons (ps_if (pt_cmpR op_eq (pe_ix ix_tup (pv 3) pe_int (fun _ _ => rfl)) pe_str (nomark _))
      (pss_one (ps_ret (pe_dget hu (pe_ix ix_tup (pv 3) pe_int (fun _ _ => rfl)) (pv 2) (fun _ _ => rfl))))
      pss_nil)
      (pss_one (ps_ret (pe_ix ix_tup (pe_dget hu (pe_ix ix_tup (pv 3) pe_int (fun _ _ => rfl)) (pv 2) (fun _ _ => rfl)) pe_int (fun _ _ => rfl))))))), ?_⟩
    walk_at "go"
    refine x_mti h1 (wkF_none (by decide +kernel) (by decide +kernel) (by decide +kernel) (by decide +kernel) (by decide +kernel) (by decide +kernel)) ?_
    walk_at "go"
    refine ⟨a, h, st, z, l, x, rfl, wa, hz, fun b hb => ?_⟩
    walk_at "go"
    cases x with
    | fin => cases hto
    | chance l2 =>
      obtain ⟨d2, hb1, hD⟩ := hb
      have hto1 : (l2.lookup s1).map (·.1) = some t1 := hto
      obtain ⟨v, hv, hv2⟩ : ∃ v, l2.lookup s1 = some v ∧ v.1 = t1 := by
        cases e2 : l2.lookup s1 with
        | none => rw [e2] at hto1; cases hto1
        | some v => rw [e2] at hto1; exact ⟨v, rfl, Option.some.inj hto1⟩
      obtain ⟨m, c, hd, hc, hp⟩ := hD.at hv
      have hp1 : H c = some (.tup [.str v.1, .int v.2]) := hp
      refine x_ixt 0 (SqT.of hb1) rfl rfl ?_
      walk_at "go"
      refine x_no (by decide +kernel) ?_
      walk_at "go"
      refine x_isiStr (.str _) ?_
      walk_at "go"
      refine x_nT ?_
      walk_at "go"
      refine x_lenT (SqT.of hb1) ?_
      walk_at "go"
      refine x_ixt 1 (SqT.of hb1) rfl rfl ?_
      walk_at "go"
      refine x_ninD (l := m) (.inl hd) ?_
      rw [hc]
      refine ⟨false, rfl, x_F ?_⟩
      walk_at "go"
      refine x_ixt 0 (SqT.of hb1) rfl rfl ?_
      walk_at "go"
      refine x_no (by decide +kernel) ?_
      walk_at "go"
      refine x_ixt 1 (SqT.of hb1) rfl rfl ?_
      walk_at "go"
      refine x_getL (l := m) (.inl hd) hc ?_
      walk_at "go"
      refine x_ixt 0 (SqT.of hp1) rfl rfl ?_
      rw [hv2]
      exact q
    | hand k2 l2 =>
      obtain ⟨d2, hb1, hd⟩ := hb
      have hto1 : l2.lookup s1 = some t1 := hto
      refine x_ixt 0 (SqT.of hb1) rfl rfl ?_
      walk_at "go"
      refine x_no (by decide +kernel) ?_
      walk_at "go"
      refine x_isiStr (.str _) ?_
      walk_at "go"
      refine x_nT ?_
      walk_at "go"
      refine x_lenT (SqT.of hb1) ?_
      walk_at "go"
      refine x_ixt 2 (SqT.of hb1) rfl rfl ?_
      walk_at "go"
      refine x_ninD (l := l2) (.inl hd) ?_
      rw [hto1]
      refine ⟨false, rfl, x_F ?_⟩
      walk_at "go"
      refine x_ixt 0 (SqT.of hb1) rfl rfl ?_
      walk_at "go"
      refine x_yes rfl ?_
      walk_at "go"
      refine x_ixt 2 (SqT.of hb1) rfl rfl ?_
      walk_at "go"
      refine x_getL (l := l2) (.inl hd) hto1 ?_
      exact q
end
/-! ### things, right or odd -/
/-- what stands in H' and not in H -/
def nw (H H' : Hp) : Hp := fun a => match H a with
  | none => H' a
  | some _ => none
theorem nw_at {H H' : Hp} {a : Addr} (h : H a = none) : nw H H' a = H' a := by
  unfold nw
  rw [h]
theorem nw_some {H H' : Hp} {a : Addr} {o : HO} (h : nw H H' a = some o) : H a = none ∧ H' a = some o := by
  unfold nw at h
  cases e : H a with
  | none => rw [e] at h; exact ⟨rfl, h⟩
  | some u => rw [e] at h; cases h
/-- H1's own places are H's, and what is new in H1' stands in H'' -/
theorem nw_same {H H1 H' H'' : Hp} (h1 : ∀ a, H1 a = none → H a = none) (h2 : ∀ a o, H1 a = none → H' a = some o → H'' a = some o) : L2.Same (nw H1 H') (nw H H'') := fun a o h => by
  obtain ⟨e1, e2⟩ := nw_some h
  rw [nw_at (h1 a e1)]
  exact h2 a o e1 e2
theorem pool_some {H : Hp} {p : Addr} (h : PoolAt H p) : H p ≠ none := by
  exact fun z => h.ne z rfl
/-! ### two promises of one def -/
def spOr (a b : Sp) : Sp := fun vs H Q E => a vs H Q E ∨ b vs H Q E
section
variable {P : Program} {w : World} {K : PySem.W.Frag} {mg : Str → Option Value} {base : Heap} {k : Nat} {f : Addr} {fd : FuncData} {ps : List Str} {sp sp' : Sp}
/-- a def that raises nothing may be taken for one that tells what it raises -/
theorem fn_x (A : FnOk P w K mg base CX0 k f fd ps sp) : FnOk P w K mg base (L2.CX P w) k f fd ps sp :=
  ⟨A.len, fun A' outer s H args us vs Q E hr he hb hv hs => codeAny_mono (A.run A' outer s H args us vs Q E hr he hb hv hs) fun r s' h => by
    cases r with
    | error e => exact (show False from h).elim
    | ok fl => cases fl <;> exact h⟩
theorem fn_or0 {CX : CXT} (A : FnOk P w K mg base CX k f fd ps sp) (B : FnOk P w K mg base CX k f fd ps sp') : FnOk P w K mg base CX k f fd ps (spOr sp sp') :=
  ⟨fun vs H Q E h => h.elim (A.len vs H Q E) (B.len vs H Q E), fun A' outer s H args us vs Q E hr he hb hv hs => hs.elim (A.run A' outer s H args us vs Q E hr he hb hv) (B.run A' outer s H args us vs Q E hr he hb hv)⟩
theorem fn_or (A : FnOk P w K mg base CX0 k f fd ps sp) (B : FnOk P w K mg base (L2.CX P w) k f fd ps sp') : FnOk P w K mg base (L2.CX P w) k f fd ps (spOr sp sp') := fn_or0 (fn_x A) B
end
/-- an error of class C goes out, whatever was made beside -/
def EX (E : XK) (H : Hp) (C : Addr) : Prop := ∀ H', L2.Same H H' → E (.ref C) none H'
theorem EX.same {E : XK} {H H1 : Hp} {C : Addr} (s : L2.Same H H1) (h : EX E H C) : EX E H1 C := fun H' s' => h H' (s.trans s')
/-! ### a work's stands and steps, with what is refused -/
/-- x is not one of the names -/
def NoNm (K : PySem.W.Frag) (H : Hp) (ns : List Str) (x : V) : Prop := (∃ k, Kd K H x k ∧ k ≠ .str) ∨ ∃ z, x = .str z ∧ z ∉ ns
theorem NoNm.same {K : PySem.W.Frag} {H H' : Hp} {ns : List Str} {x : V} (s : L2.Same H H') (h : NoNm K H ns x) : NoNm K H' ns x :=
  h.imp (fun ⟨k, hk, n⟩ => ⟨k, hk.same s, n⟩) id
/-- an error of class C goes out, its field y holds v -/
def EXF (E : XK) (H : Hp) (C : Addr) (y : Str) (v : V) : Prop := ∀ H' d, L2.Same H H' → H' d = none → E (.ref C) (some d) (upd H' d (.xd [(y, v)]))
theorem EXF.same {E : XK} {H H1 : Hp} {C : Addr} {y : Str} {v : V} (s : L2.Same H H1) (h : EXF E H C y v) : EXF E H1 C y v := fun H' d s' => h H' d (s.trans s')
theorem not_strK {k : Kn} (h : k ≠ .str) : isB k .str = false := by
  cases k with
  | str => exact absurd rfl h
  | _ => rfl
def wtV : Sd → Str → V
  | .chance l, s => match l.lookup s with
    | some q => .int q.2
    | none => .non
  | _, _ => .non
def spRowNo (K : PySem.W.Frag) (C CN : Addr) : Sp := fun vs H _ E => ∃ (a : Addr) (x : V) (h : Int) (st : Str) (l : List (Str × Sd)), vs = [.ref a, x] ∧ WorkRd C H a h st l ∧ NoNm K H (l.map (·.1)) x ∧ EXF E H CN "name" x
def spRowX (K : PySem.W.Frag) (C CN : Addr) : Sp := spOr (spRow C) (spRowNo K C CN)
def spKindX (K : PySem.W.Frag) (C CN : Addr) : Sp := spOr (spKind C) (spRowNo K C CN)
def spMoverX (K : PySem.W.Frag) (C CN : Addr) : Sp := spOr (spMover C) (spRowNo K C CN)
def spStepsX (K : PySem.W.Frag) (C CN : Addr) : Sp := spOr (spSteps C) (spRowNo K C CN)
/-- the stand is none, or the step is none of its steps -/
def spStepNo (K : PySem.W.Frag) (C CN CS : Addr) : Sp := fun vs H _ E => ∃ (a : Addr) (x y : V) (h : Int) (st : Str) (l : List (Str × Sd)), vs = [.ref a, x, y] ∧ WorkRd C H a h st l ∧
  ((NoNm K H (l.map (·.1)) x ∧ EXF E H CN "name" x) ∨ ∃ z sd, x = .str z ∧ l.lookup z = some sd ∧ NoNm K H (stepsL sd) y ∧ EXF E H CS "name" y)
def spToX (K : PySem.W.Frag) (C CN CS : Addr) : Sp := spOr (spTo C) (spStepNo K C CN CS)
def spWeight (C : Addr) : Sp := fun vs H Q _ => ∃ (a : Addr) (h : Int) (st z s : Str) (l : List (Str × Sd)) (x : Sd), vs = [.ref a, .str z, .str s] ∧ WorkRd C H a h st l ∧ l.lookup z = some x ∧ s ∈ stepsL x ∧ Q (wtV x s) H
def spWeightX (K : PySem.W.Frag) (C CN CS : Addr) : Sp := spOr (spWeight C) (spStepNo K C CN CS)
theorem look_none {α : Type} {l : List (Str × α)} {z : Str} (h : z ∉ l.map (·.1)) : l.lookup z = none := by
  cases e : l.lookup z with
  | none => rfl
  | some x => exact absurd (List.mem_map.mpr ⟨_, lookup_mem e, rfl⟩) h
section
variable {P : Program} {w : World} {K : PySem.W.Frag} {mg : Str → Option Value} {base : Heap} {CW CN CS : Addr}
theorem ok_Work_rowX {f : Addr} {fd : FuncData} (F : Fun K "row" "Work.row" s_Work_row f fd) (K_Work : Cls K CW) (N1 : NoAttr K CW "table") (Z_str : mg "str" = none) (Z_isinstance : mg "isinstance" = none) (E_NoStand : ExcF P K mg "NoStand" "name" CN) : FnOk P w K mg base (L2.CX P w) 1 f fd ["self", "stand"] (spRowX K CW CN) := by
  refine fn_or (ok_Work_row F K_Work N1 Z_str Z_isinstance) (F.okX sc_Work_row (fun vs H Q E h => ?_) (fun cdv A outer s H vs Q E hr h => ?_))
  · obtain ⟨_, _, _, _, _, rfl, _⟩ := h
    rfl
  · obtain ⟨a, x, h, st, l, rfl, wa, hx, q⟩ := h
    obtain ⟨dx, t, n, e, h1, hT, _, _⟩ := wa.ex
    have hu := hu_of hr
    refine ⟨_, (pss_cons (ps_if (PW.pt (pw_or (pt_not (pt_val (pe_callB call_isi (by rfl) Z_isinstance (by decide +kernel) (pa_cons (pv 1) (pa_cons (pe_bltn (v := .ty "str") (by rfl) Z_str (by decide +kernel) rfl) pa_nil))))) (pw_or1 (pt_cmp (pc_dnotin hu (pv 1) (pe_fld (pv 0) rfl))))))
      (pss_one (ps_raiseS rfl (takes_of rfl rfl rfl rfl) E_NoStand hr (by rfl) (pa_cons (pv 1) pa_nil)))
      pss_nil)
      (pss_one (ps_ret (pe_dget hu (pe_fld (pv 0) rfl) (pv 1) (fun _ _ => rfl))))), ?_⟩
    walk_at "go"
    rcases hx with ⟨k, hk, hn⟩ | ⟨z, rfl, hz⟩
    · refine x_isiStr hk ?_
      rw [not_strK hn]
      walk_at "go"
      refine x_raiseS ?_
      walk_at "go"
      exact ⟨x, rfl, fun d hd => q _ d (L2.Same.refl _) hd⟩
    · obtain ⟨m, hm, hk, _⟩ := hT.ex
      refine x_isiStr (.str _) ?_
      walk_at "go"
      refine x_nT ?_
      walk_at "go"
      refine x_fld K_Work N1 h1 wkF_table ?_
      walk_at "go"
      refine x_ninD (l := m) hm ?_
      rw [look_none (by rw [hk]; exact hz)]
      refine ⟨true, rfl, x_T ?_⟩
      walk_at "go"
      refine x_raiseS ?_
      walk_at "go"
      exact ⟨_, rfl, fun d hd => q _ d (L2.Same.refl _) hd⟩
theorem ok_Work_kindX {f : Addr} {fd : FuncData} (F : Fun K "kind" "Work.kind" s_Work_kind f fd) (K_Work : Cls K CW) (T_Work_row : Met P w K mg base CW 1 "row" ["self", "stand"] (spRow CW)) (XT_Work_row : MetX P w K mg base CW 1 "row" ["self", "stand"] (spRowX K CW CN)) : FnOk P w K mg base (L2.CX P w) 2 f fd ["self", "stand"] (spKindX K CW CN) := by
  refine fn_or (ok_Work_kind F K_Work T_Work_row) (F.okX sc_Work_kind (fun vs H Q E h => ?_) (fun cdv A outer s H vs Q E hr h => ?_))
  · obtain ⟨_, _, _, _, _, rfl, _⟩ := h
    rfl
  · obtain ⟨a, x, h, st, l, rfl, wa, hx, q⟩ := h
    obtain ⟨dx, t, n, e, h1, _⟩ := id wa.ex
    refine ⟨_, (pss_one (ps_ret (pe_ix ix_tup (pe_mtX XT_Work_row K_Work (hr.mono (by decide)) (takes_of rfl rfl rfl rfl) (pv 0) (pa_cons (pv 1) pa_nil)) pe_int (fun _ _ => rfl)))), ?_⟩
    walk_at "go"
    refine x_mtX ?_
    walk_at "go"
    refine x_mti h1 (wkF_none (by decide +kernel) (by decide +kernel) (by decide +kernel) (by decide +kernel) (by decide +kernel) (by decide +kernel)) ?_
    walk_at "go"
    exact .inr ⟨a, x, h, st, l, rfl, wa, hx, q⟩
theorem ok_Work_moverX {f : Addr} {fd : FuncData} (F : Fun K "mover" "Work.mover" s_Work_mover f fd) (K_Work : Cls K CW) (T_Work_row : Met P w K mg base CW 1 "row" ["self", "stand"] (spRow CW)) (XT_Work_row : MetX P w K mg base CW 1 "row" ["self", "stand"] (spRowX K CW CN)) : FnOk P w K mg base (L2.CX P w) 2 f fd ["self", "stand"] (spMoverX K CW CN) := by
  refine fn_or (ok_Work_mover F K_Work T_Work_row) (F.okX sc_Work_mover (fun vs H Q E h => ?_) (fun cdv A outer s H vs Q E hr h => ?_))
  · obtain ⟨_, _, _, _, _, rfl, _⟩ := h
    rfl
  · obtain ⟨a, x, h, st, l, rfl, wa, hx, q⟩ := h
    obtain ⟨dx, t, n, e, h1, _⟩ := id wa.ex
    refine ⟨_, (pss_cons (ps_set (i := 2) sc_Work_mover.nd rfl (Or.inl rfl) (pe_mtX XT_Work_row K_Work (hr.mono (by decide)) (takes_of rfl rfl rfl rfl) (pv 0) (pa_cons (pv 1) pa_nil)))
      (pss_cons (ps_if (pt_cmpR op_eq (pe_ix ix_tup (pv 2) pe_int (fun _ _ => rfl)) pe_str (nomark _))
      (pss_one (ps_ret (pe_ix ix_tup (pv 2) pe_int (fun _ _ => rfl))))
      pss_nil)
      (pss_one (ps_ret pe_non)))), ?_⟩
    walk_at "go"
    refine x_mtX ?_
    walk_at "go"
    refine x_mti h1 (wkF_none (by decide +kernel) (by decide +kernel) (by decide +kernel) (by decide +kernel) (by decide +kernel) (by decide +kernel)) ?_
    walk_at "go"
    exact .inr ⟨a, x, h, st, l, rfl, wa, hx, q⟩
theorem ok_Work_stepsX {f : Addr} {fd : FuncData} (F : Fun K "steps" "Work.steps" s_Work_steps f fd) (K_Work : Cls K CW) (Z_len : mg "len" = none) (Z_sorted : mg "sorted" = none) (T_Work_row : Met P w K mg base CW 1 "row" ["self", "stand"] (spRow CW)) (XT_Work_row : MetX P w K mg base CW 1 "row" ["self", "stand"] (spRowX K CW CN)) : FnOk P w K mg base (L2.CX P w) 2 f fd ["self", "stand"] (spStepsX K CW CN) := by
  refine fn_or (ok_Work_steps F K_Work Z_len Z_sorted T_Work_row) (F.okX sc_Work_steps (fun vs H Q E h => ?_) (fun cdv A outer s H vs Q E hr h => ?_))
  · obtain ⟨_, _, _, _, _, rfl, _⟩ := h
    rfl
  · obtain ⟨a, x, h, st, l, rfl, wa, hx, q⟩ := h
    obtain ⟨dx, t, n, e, h1, _⟩ := id wa.ex
    refine ⟨_, (pss_cons (ps_set (i := 2) sc_Work_steps.nd rfl (Or.inl rfl) (pe_mtX XT_Work_row K_Work (hr.mono (by decide)) (takes_of rfl rfl rfl rfl) (pv 0) (pa_cons (pv 1) pa_nil)))
      (pss_cons (ps_if (pt_cmpR op_eq (pe_ix ix_tup (pv 2) pe_int (fun _ _ => rfl)) pe_str (nomark _))
      (pss_one (ps_ret (pe_lst pa_nil)))
      pss_nil)
      (pss_one (ps_ret (pe_callB (call_sortedDA rfl) (by rfl) Z_sorted (by decide +kernel) (pa_cons (pe_ix ix_tup (pv 2) (pe_op op_sub (pe_callB call_lenA (by rfl) Z_len (by decide +kernel) (pa_cons (pv 2) pa_nil)) pe_int) (fun _ _ => rfl)) pa_nil)))))), ?_⟩
    walk_at "go"
    refine x_mtX ?_
    walk_at "go"
    refine x_mti h1 (wkF_none (by decide +kernel) (by decide +kernel) (by decide +kernel) (by decide +kernel) (by decide +kernel) (by decide +kernel)) ?_
    walk_at "go"
    exact .inr ⟨a, x, h, st, l, rfl, wa, hx, q⟩
theorem ok_Work_toX {f : Addr} {fd : FuncData} (F : Fun K "to" "Work.to" s_Work_to f fd) (K_Work : Cls K CW) (Z_len : mg "len" = none) (Z_str : mg "str" = none) (Z_isinstance : mg "isinstance" = none) (T_Work_row : Met P w K mg base CW 1 "row" ["self", "stand"] (spRow CW)) (XT_Work_row : MetX P w K mg base CW 1 "row" ["self", "stand"] (spRowX K CW CN)) (E_NoStep : ExcF P K mg "NoStep" "name" CS) : FnOk P w K mg base (L2.CX P w) 2 f fd ["self", "stand", "step"] (spToX K CW CN CS) := by
  refine fn_or (ok_Work_to F K_Work Z_len Z_str Z_isinstance T_Work_row) (F.okX sc_Work_to (fun vs H Q E h => ?_) (fun cdv A outer s H vs Q E hr h => ?_))
  · obtain ⟨_, _, _, _, _, _, rfl, _⟩ := h
    rfl
  · skip
    obtain ⟨a, x, y, h, st, l, rfl, wa, hx⟩ := h
    obtain ⟨dx, t, n, e, h1, _⟩ := id wa.ex
    have hu := hu_of hr
    refine ⟨_, (pss_cons (ps_set (i := 3) sc_Work_to.nd rfl (Or.inl rfl) (pe_mtX XT_Work_row K_Work (hr.mono (by decide)) (takes_of rfl rfl rfl rfl) (pv 0) (pa_cons (pv 1) pa_nil)))
      (pss_cons (ps_if (PW.pt (pw_or (pt_cmpR op_eq (pe_ix ix_tup (pv 3) pe_int (fun _ _ => rfl)) pe_str (nomark _)) (pw_or (pt_not (pt_val (pe_callB call_isi (by rfl) Z_isinstance (by decide +kernel) (pa_cons (pv 2) (pa_cons (pe_bltn (v := .ty "str") (by rfl) Z_str (by decide +kernel) rfl) pa_nil))))) (pw_or1 (pt_cmp (pc_dnotin hu (pv 2) (pe_ix ix_tup (pv 3) (pe_op op_sub (pe_callB call_lenA (by rfl) Z_len (by decide +kernel) (pa_cons (pv 3) pa_nil)) pe_int) (fun _ _ => rfl))))))))
      (pss_one (ps_raiseS rfl (takes_of rfl rfl rfl rfl) E_NoStep hr (by rfl) (pa_cons (pv 2) pa_nil)))
      pss_nil)
      (pss_cons (ps_if (pt_cmpR op_eq (pe_ix ix_tup (pv 3) pe_int (fun _ _ => rfl)) pe_str (nomark _))
      (pss_one (ps_ret (pe_dget hu (pe_ix ix_tup (pv 3) pe_int (fun _ _ => rfl)) (pv 2) (fun _ _ => rfl))))
      pss_nil)
      (pss_one (ps_ret (pe_ix ix_tup (pe_dget hu (pe_ix ix_tup (pv 3) pe_int (fun _ _ => rfl)) (pv 2) (fun _ _ => rfl)) pe_int (fun _ _ => rfl))))))), ?_⟩
    walk_at "go"
    refine x_mtX ?_
    walk_at "go"
    refine x_mti h1 (wkF_none (by decide +kernel) (by decide +kernel) (by decide +kernel) (by decide +kernel) (by decide +kernel) (by decide +kernel)) ?_
    walk_at "go"
    rcases hx with ⟨hx, q⟩ | ⟨z, sd, rfl, hz, hy, q⟩
    · exact .inr ⟨a, x, h, st, l, rfl, wa, hx, q⟩
    · refine .inl ⟨a, h, st, z, l, sd, rfl, wa, hz, fun b hb => ?_⟩
      walk_at "go"
      cases sd with
      | fin =>
        have hb1 : H b = some (.tup [.str "end"]) := hb
        refine x_ixt 0 (SqT.of hb1) rfl rfl ?_
        walk_at "go"
        refine x_yes rfl ?_
        walk_at "go"
        refine x_raiseS ?_
        walk_at "go"
        exact ⟨y, rfl, fun d hd => q _ d (L2.Same.refl _) hd⟩
      | chance l2 =>
        obtain ⟨d2, hb1, hD⟩ := hb
        obtain ⟨m, hd, hk2, _⟩ := hD.ex
        refine x_ixt 0 (SqT.of hb1) rfl rfl ?_
        walk_at "go"
        refine x_no (by decide +kernel) ?_
        walk_at "go"
        rcases hy with ⟨k, hk, hn⟩ | ⟨s1, rfl, hs1⟩
        · refine x_isiStr hk ?_
          rw [not_strK hn]
          walk_at "go"
          refine x_raiseS ?_
          walk_at "go"
          exact ⟨y, rfl, fun d hd => q _ d (L2.Same.refl _) hd⟩
        · refine x_isiStr (.str _) ?_
          walk_at "go"
          refine x_nT ?_
          walk_at "go"
          refine x_lenT (SqT.of hb1) ?_
          walk_at "go"
          refine x_ixt 1 (SqT.of hb1) rfl rfl ?_
          walk_at "go"
          refine x_ninD (l := m) (.inl hd) ?_
          rw [look_none (by rw [hk2]; exact hs1)]
          refine ⟨true, rfl, x_T ?_⟩
          walk_at "go"
          refine x_raiseS ?_
          walk_at "go"
          exact ⟨_, rfl, fun d hd => q _ d (L2.Same.refl _) hd⟩
      | hand k2 l2 =>
        obtain ⟨d2, hb1, hd⟩ := hb
        refine x_ixt 0 (SqT.of hb1) rfl rfl ?_
        walk_at "go"
        refine x_no (by decide +kernel) ?_
        walk_at "go"
        rcases hy with ⟨k, hk, hn⟩ | ⟨s1, rfl, hs1⟩
        · refine x_isiStr hk ?_
          rw [not_strK hn]
          walk_at "go"
          refine x_raiseS ?_
          walk_at "go"
          exact ⟨y, rfl, fun d hd => q _ d (L2.Same.refl _) hd⟩
        · refine x_isiStr (.str _) ?_
          walk_at "go"
          refine x_nT ?_
          walk_at "go"
          refine x_lenT (SqT.of hb1) ?_
          walk_at "go"
          refine x_ixt 2 (SqT.of hb1) rfl rfl ?_
          walk_at "go"
          refine x_ninD (l := l2) (.inl hd) ?_
          rw [look_none (by exact hs1)]
          refine ⟨true, rfl, x_T ?_⟩
          walk_at "go"
          refine x_raiseS ?_
          walk_at "go"
          exact ⟨_, rfl, fun d hd => q _ d (L2.Same.refl _) hd⟩
theorem ok_Work_weight {f : Addr} {fd : FuncData} (F : Fun K "weight" "Work.weight" s_Work_weight f fd) (K_Work : Cls K CW) (Z_len : mg "len" = none) (Z_str : mg "str" = none) (Z_isinstance : mg "isinstance" = none) (T_Work_row : Met P w K mg base CW 1 "row" ["self", "stand"] (spRow CW)) : FnOk P w K mg base CX0 2 f fd ["self", "stand", "step"] (spWeight CW) := by
  refine F.ok sc_Work_weight (fun vs H Q E h => ?_) (fun cdv A outer s H vs Q E hr h => ?_)
  · obtain ⟨_, _, _, _, _, _, _, rfl, _⟩ := h
    rfl
  · obtain ⟨a, h, st, z, s1, l, x, rfl, wa, hz, hs, q⟩ := h
    obtain ⟨dx, t, n, e, h1, _⟩ := id wa.ex
    have hu := hu_of hr
    refine ⟨_, (pss_cons (ps_set (i := 3) sc_Work_weight.nd rfl (Or.inl rfl) (pe_mt T_Work_row K_Work (hr.mono (by decide)) (pv 0) (pa_cons (pv 1) pa_nil)))
      (pss_cons (ps_if (PW.pt (pw_or (pt_cmpR op_eq (pe_ix ix_tup (pv 3) pe_int (fun _ _ => rfl)) pe_str (nomark _)) (pw_or (pt_not (pt_val (pe_callB call_isi (by rfl) Z_isinstance (by decide +kernel) (pa_cons (pv 2) (pa_cons (pe_bltn (v := .ty "str") (by rfl) Z_str (by decide +kernel) rfl) pa_nil))))) (pw_or1 (pt_cmp (pc_dnotin hu (pv 2) (pe_ix ix_tup (pv 3) (pe_op op_sub (pe_callB call_lenA (by rfl) Z_len (by decide +kernel) (pa_cons (pv 3) pa_nil)) pe_int) (fun _ _ => rfl))))))))
      (pss_one ps_never)
      pss_nil)
      (pss_cons (ps_if (pt_cmpR op_eq (pe_ix ix_tup (pv 3) pe_int (fun _ _ => rfl)) pe_str (nomark _))
      (pss_one (ps_ret pe_non))
      pss_nil)
      (pss_one (ps_ret (pe_ix ix_tup (pe_dget hu (pe_ix ix_tup (pv 3) pe_int (fun _ _ => rfl)) (pv 2) (fun _ _ => rfl)) pe_int (fun _ _ => rfl))))))), ?_⟩
    walk_at "go"
    refine x_mti h1 (wkF_none (by decide +kernel) (by decide +kernel) (by decide +kernel) (by decide +kernel) (by decide +kernel) (by decide +kernel)) ?_
    walk_at "go"
    refine ⟨a, h, st, z, l, x, rfl, wa, hz, fun b hb => ?_⟩
    walk_at "go"
    cases x with
    | fin => cases hs
    | chance l2 =>
      obtain ⟨d2, hb1, hD⟩ := hb
      obtain ⟨v, hv⟩ := lookup_isSome (l := l2) hs
      obtain ⟨m, c, hd, hc, hp⟩ := hD.at hv
      have hp1 : H c = some (.tup [.str v.1, .int v.2]) := hp
      refine x_ixt 0 (SqT.of hb1) rfl rfl ?_
      walk_at "go"
      refine x_no (by decide +kernel) ?_
      walk_at "go"
      refine x_isiStr (.str _) ?_
      walk_at "go"
      refine x_nT ?_
      walk_at "go"
      refine x_lenT (SqT.of hb1) ?_
      walk_at "go"
      refine x_ixt 1 (SqT.of hb1) rfl rfl ?_
      walk_at "go"
      refine x_ninD (l := m) (.inl hd) ?_
      rw [hc]
      refine ⟨false, rfl, x_F ?_⟩
      walk_at "go"
      refine x_ixt 0 (SqT.of hb1) rfl rfl ?_
      walk_at "go"
      refine x_no (by decide +kernel) ?_
      walk_at "go"
      refine x_ixt 1 (SqT.of hb1) rfl rfl ?_
      walk_at "go"
      refine x_getL (l := m) (.inl hd) hc ?_
      walk_at "go"
      refine x_ixt 1 (SqT.of hp1) rfl rfl ?_
      have e2 : wtV (.chance l2) s1 = .int v.2 := by
        show (match l2.lookup s1 with | some q => V.int q.2 | none => V.non) = _
        rw [hv]
      rw [← e2]
      exact q
    | hand k2 l2 =>
      obtain ⟨d2, hb1, hd⟩ := hb
      obtain ⟨v, hv⟩ := lookup_isSome (l := l2) hs
      refine x_ixt 0 (SqT.of hb1) rfl rfl ?_
      walk_at "go"
      refine x_no (by decide +kernel) ?_
      walk_at "go"
      refine x_isiStr (.str _) ?_
      walk_at "go"
      refine x_nT ?_
      walk_at "go"
      refine x_lenT (SqT.of hb1) ?_
      walk_at "go"
      refine x_ixt 2 (SqT.of hb1) rfl rfl ?_
      walk_at "go"
      refine x_ninD (l := l2) (.inl hd) ?_
      rw [hv]
      refine ⟨false, rfl, x_F ?_⟩
      walk_at "go"
      refine x_ixt 0 (SqT.of hb1) rfl rfl ?_
      walk_at "go"
      refine x_yes rfl ?_
      walk_at "go"
      exact q
theorem ok_Work_weightX {f : Addr} {fd : FuncData} (F : Fun K "weight" "Work.weight" s_Work_weight f fd) (K_Work : Cls K CW) (Z_len : mg "len" = none) (Z_str : mg "str" = none) (Z_isinstance : mg "isinstance" = none) (T_Work_row : Met P w K mg base CW 1 "row" ["self", "stand"] (spRow CW)) (XT_Work_row : MetX P w K mg base CW 1 "row" ["self", "stand"] (spRowX K CW CN)) (E_NoStep : ExcF P K mg "NoStep" "name" CS) : FnOk P w K mg base (L2.CX P w) 2 f fd ["self", "stand", "step"] (spWeightX K CW CN CS) := by
  refine fn_or (ok_Work_weight F K_Work Z_len Z_str Z_isinstance T_Work_row) (F.okX sc_Work_weight (fun vs H Q E h => ?_) (fun cdv A outer s H vs Q E hr h => ?_))
  · obtain ⟨_, _, _, _, _, _, rfl, _⟩ := h
    rfl
  · skip
    obtain ⟨a, x, y, h, st, l, rfl, wa, hx⟩ := h
    obtain ⟨dx, t, n, e, h1, _⟩ := id wa.ex
    have hu := hu_of hr
    refine ⟨_, (pss_cons (ps_set (i := 3) sc_Work_weight.nd rfl (Or.inl rfl) (pe_mtX XT_Work_row K_Work (hr.mono (by decide)) (takes_of rfl rfl rfl rfl) (pv 0) (pa_cons (pv 1) pa_nil)))
      (pss_cons (ps_if (PW.pt (pw_or (pt_cmpR op_eq (pe_ix ix_tup (pv 3) pe_int (fun _ _ => rfl)) pe_str (nomark _)) (pw_or (pt_not (pt_val (pe_callB call_isi (by rfl) Z_isinstance (by decide +kernel) (pa_cons (pv 2) (pa_cons (pe_bltn (v := .ty "str") (by rfl) Z_str (by decide +kernel) rfl) pa_nil))))) (pw_or1 (pt_cmp (pc_dnotin hu (pv 2) (pe_ix ix_tup (pv 3) (pe_op op_sub (pe_callB call_lenA (by rfl) Z_len (by decide +kernel) (pa_cons (pv 3) pa_nil)) pe_int) (fun _ _ => rfl))))))))
      (pss_one (ps_raiseS rfl (takes_of rfl rfl rfl rfl) E_NoStep hr (by rfl) (pa_cons (pv 2) pa_nil)))
      pss_nil)
      (pss_cons (ps_if (pt_cmpR op_eq (pe_ix ix_tup (pv 3) pe_int (fun _ _ => rfl)) pe_str (nomark _))
      (pss_one (ps_ret pe_non))
      pss_nil)
      (pss_one (ps_ret (pe_ix ix_tup (pe_dget hu (pe_ix ix_tup (pv 3) pe_int (fun _ _ => rfl)) (pv 2) (fun _ _ => rfl)) pe_int (fun _ _ => rfl))))))), ?_⟩
    walk_at "go"
    refine x_mtX ?_
    walk_at "go"
    refine x_mti h1 (wkF_none (by decide +kernel) (by decide +kernel) (by decide +kernel) (by decide +kernel) (by decide +kernel) (by decide +kernel)) ?_
    walk_at "go"
    rcases hx with ⟨hx, q⟩ | ⟨z, sd, rfl, hz, hy, q⟩
    · exact .inr ⟨a, x, h, st, l, rfl, wa, hx, q⟩
    · refine .inl ⟨a, h, st, z, l, sd, rfl, wa, hz, fun b hb => ?_⟩
      walk_at "go"
      cases sd with
      | fin =>
        have hb1 : H b = some (.tup [.str "end"]) := hb
        refine x_ixt 0 (SqT.of hb1) rfl rfl ?_
        walk_at "go"
        refine x_yes rfl ?_
        walk_at "go"
        refine x_raiseS ?_
        walk_at "go"
        exact ⟨y, rfl, fun d hd => q _ d (L2.Same.refl _) hd⟩
      | chance l2 =>
        obtain ⟨d2, hb1, hD⟩ := hb
        obtain ⟨m, hd, hk2, _⟩ := hD.ex
        refine x_ixt 0 (SqT.of hb1) rfl rfl ?_
        walk_at "go"
        refine x_no (by decide +kernel) ?_
        walk_at "go"
        rcases hy with ⟨k, hk, hn⟩ | ⟨s1, rfl, hs1⟩
        · refine x_isiStr hk ?_
          rw [not_strK hn]
          walk_at "go"
          refine x_raiseS ?_
          walk_at "go"
          exact ⟨y, rfl, fun d hd => q _ d (L2.Same.refl _) hd⟩
        · refine x_isiStr (.str _) ?_
          walk_at "go"
          refine x_nT ?_
          walk_at "go"
          refine x_lenT (SqT.of hb1) ?_
          walk_at "go"
          refine x_ixt 1 (SqT.of hb1) rfl rfl ?_
          walk_at "go"
          refine x_ninD (l := m) (.inl hd) ?_
          rw [look_none (by rw [hk2]; exact hs1)]
          refine ⟨true, rfl, x_T ?_⟩
          walk_at "go"
          refine x_raiseS ?_
          walk_at "go"
          exact ⟨_, rfl, fun d hd => q _ d (L2.Same.refl _) hd⟩
      | hand k2 l2 =>
        obtain ⟨d2, hb1, hd⟩ := hb
        refine x_ixt 0 (SqT.of hb1) rfl rfl ?_
        walk_at "go"
        refine x_no (by decide +kernel) ?_
        walk_at "go"
        rcases hy with ⟨k, hk, hn⟩ | ⟨s1, rfl, hs1⟩
        · refine x_isiStr hk ?_
          rw [not_strK hn]
          walk_at "go"
          refine x_raiseS ?_
          walk_at "go"
          exact ⟨y, rfl, fun d hd => q _ d (L2.Same.refl _) hd⟩
        · refine x_isiStr (.str _) ?_
          walk_at "go"
          refine x_nT ?_
          walk_at "go"
          refine x_lenT (SqT.of hb1) ?_
          walk_at "go"
          refine x_ixt 2 (SqT.of hb1) rfl rfl ?_
          walk_at "go"
          refine x_ninD (l := l2) (.inl hd) ?_
          rw [look_none (by exact hs1)]
          refine ⟨true, rfl, x_T ?_⟩
          walk_at "go"
          refine x_raiseS ?_
          walk_at "go"
          exact ⟨_, rfl, fun d hd => q _ d (L2.Same.refl _) hd⟩
end
/-! ### rows that were sorted -/
theorem sort_leads {x x' : Sd} (s : SdSort x x') (t : Str) : t ∈ leadsL x' ↔ t ∈ leadsL x := by
  cases x with
  | fin => cases x' with
    | fin => exact Iff.rfl
    | chance _ => cases s
    | hand _ _ => cases s
  | chance l => cases x' with
    | fin => cases s
    | hand _ _ => cases s
    | chance l' => exact (s.1.map (·.2.1)).mem_iff
  | hand k l => cases x' with
    | fin => cases s
    | chance _ => cases s
    | hand k' l' => exact (s.2.1.map (·.2)).mem_iff
theorem sort_mv {x x' : Sd} (s : SdSort x x') (lot : List Int) : mvIn lot x' = mvIn lot x := by
  cases x with
  | fin => cases x' with
    | fin => rfl
    | chance _ => cases s
    | hand _ _ => cases s
  | chance l => cases x' with
    | fin => cases s
    | hand _ _ => cases s
    | chance l' => rfl
  | hand k l => cases x' with
    | fin => cases s
    | chance _ => cases s
    | hand k' l' => rw [show k' = k from s.1]; rfl
theorem sort_fin {x x' : Sd} (s : SdSort x x') : x' = .fin ↔ x = .fin := by
  cases x with
  | fin => cases x' with
    | fin => exact ⟨fun _ => rfl, fun _ => rfl⟩
    | chance _ => cases s
    | hand _ _ => cases s
  | chance l => cases x' with
    | fin => cases s
    | hand _ _ => cases s
    | chance l' => exact ⟨fun h => (by cases h), fun h => (by cases h)⟩
  | hand k l => cases x' with
    | fin => cases s
    | chance _ => cases s
    | hand k' l' => exact ⟨fun h => (by cases h), fun h => (by cases h)⟩
theorem sort_srt {x x' : Sd} (s : SdSort x x') : SrtSd x' := by
  cases x with
  | fin => cases x' with
    | fin => rfl
    | chance _ => cases s
    | hand _ _ => cases s
  | chance l => cases x' with
    | fin => cases s
    | hand _ _ => cases s
    | chance l' => exact s.2
  | hand k l => cases x' with
    | fin => cases s
    | chance _ => cases s
    | hand k' l' => exact s.2.2
theorem sort_steps {x x' : Sd} (s : SdSort x x') : (stepsL x').Perm (stepsL x) := by
  cases x with
  | fin => cases x' with
    | fin => exact List.Perm.refl _
    | chance _ => cases s
    | hand _ _ => cases s
  | chance l => cases x' with
    | fin => cases s
    | hand _ _ => cases s
    | chance l' => exact s.1.map _
  | hand k l => cases x' with
    | fin => cases s
    | chance _ => cases s
    | hand k' l' => exact s.2.1.map _
theorem sort_toS {h : Int} {ns : List Str} {x x' : Sd} (g : GoodSd h ns x) (s : SdSort x x') (z : Str) : toS x' z = toS x z := by
  cases x with
  | fin => cases x' with
    | fin => rfl
    | chance _ => cases s
    | hand _ _ => cases s
  | chance l => cases x' with
    | fin => cases s
    | hand _ _ => cases s
    | chance l' =>
      show (l'.lookup z).map _ = (l.lookup z).map _
      rw [lookup_perm s.1 g.1 z]
  | hand k l => cases x' with
    | fin => cases s
    | chance _ => cases s
    | hand k' l' => exact lookup_perm s.2.1 g.2.2.1 z
theorem tab_look {l l' : List (Str × Sd)} (T : TabSort l l') {z : Str} {x : Sd} (hx : l.lookup z = some x) : ∃ x', l'.lookup z = some x' ∧ SdSort x x' := by
  obtain ⟨x', hx'⟩ := lookup_isSome (l := l') (z := z) (T.pm.mem_iff.mpr (List.mem_map.mpr ⟨_, lookup_mem hx, rfl⟩))
  obtain ⟨y, hy, s⟩ := T.sd z x' hx'
  rw [hx] at hy
  cases hy
  exact ⟨x', hx', s⟩
theorem sort_kind {x x' : Sd} (s : SdSort x x') : kindS x' = kindS x := by
  cases x with
  | fin => cases x' with
    | fin => rfl
    | chance _ => cases s
    | hand _ _ => cases s
  | chance l => cases x' with
    | fin => cases s
    | hand _ _ => cases s
    | chance l' => rfl
  | hand k l => cases x' with
    | fin => cases s
    | chance _ => cases s
    | hand k' l' => rfl
theorem sort_mvV {x x' : Sd} (s : SdSort x x') : moverV x' = moverV x := by
  cases x with
  | fin => cases x' with
    | fin => rfl
    | chance _ => cases s
    | hand _ _ => cases s
  | chance l => cases x' with
    | fin => cases s
    | hand _ _ => cases s
    | chance l' => rfl
  | hand k l => cases x' with
    | fin => cases s
    | chance _ => cases s
    | hand k' l' => exact congrArg V.int s.1
theorem steps_nm {h : Int} {ns : List Str} {x : Sd} (g : GoodSd h ns x) : ∀ s ∈ stepsL x, NameS s := by
  intro s hs
  cases x with
  | fin => cases hs
  | chance l =>
    obtain ⟨q, hq, rfl⟩ := List.mem_map.mp (show s ∈ l.map (·.1) from hs)
    exact (g.2.2.2 q hq).1
  | hand k l =>
    obtain ⟨q, hq, rfl⟩ := List.mem_map.mp (show s ∈ l.map (·.1) from hs)
    exact (g.2.2.2.2.2 q hq).1
/-! ### a work's fields, names as data -/
theorem wkF_names {h : Int} {st : Str} {t n e : Addr} {r : Bool} : (wkF h st t n e r).lookup ("names" : Str) = some (.ref n) := by
  unfold wkF
  rw [lookup_putF, if_neg (by decide +kernel), lookup_putF, if_neg (by decide +kernel), lookup_putF, if_pos rfl]
theorem wkF_ends {h : Int} {st : Str} {t n e : Addr} {r : Bool} : (wkF h st t n e r).lookup ("ends" : Str) = some (.ref e) := by
  unfold wkF
  rw [lookup_putF, if_neg (by decide +kernel), lookup_putF, if_pos rfl]
theorem NameS.ok {z : Str} (h : NameS z) : PyData.strOk z = true := by
  obtain ⟨d, r, e, hd, _, hr⟩ := h
  have key : ∀ c ∈ z.cps.toList, c < 0x110000 := by
    rw [e]
    intro c hc
    rcases List.mem_cons.mp hc with rfl | hc
    · have := hd.2; omega
    · rcases hr c hc with q | q <;> omega
  unfold PyData.strOk
  rw [← Array.all_toList]
  exact List.all_eq_true.mpr fun c hc => decide_eq_true (key c hc)
/-! ### lists of plain values, alike -/
def dat : V → PyData
  | .bl b => .bool b
  | .int i => .int i
  | .str z => .str z
  | _ => .none
def isDat : V → Bool
  | .non => true
  | .bl _ => true
  | .int _ => true
  | .str z => PyData.strOk z
  | _ => false
theorem dp_all {K : PySem.W.Frag} {H : Hp} : ∀ {xs : List V}, (∀ x ∈ xs, isDat x = true) → DpAll K H xs (xs.map dat)
  | [], _ => .nil
  | x :: r, h => by
    refine .cons ?_ (dp_all fun y hy => h y (List.mem_cons_of_mem _ hy))
    have hx := h x List.mem_cons_self
    cases x with
    | non => exact .non
    | bl b => exact .bl b
    | int i => exact .int i
    | str z => exact .str z
    | _ => cases hx
theorem dat_lay {x : V} (h : isDat x = true) : (dat x).canLay0 = true ∧ (dat x).depth = 0 := by
  cases x with
  | str z => exact ⟨h, rfl⟩
  | _ => exact ⟨rfl, rfl⟩
theorem dats_lay : ∀ xs : List V, (∀ x ∈ xs, isDat x = true) → PyData.canLayAll0 (xs.map dat) = true ∧ PyData.depthAll (xs.map dat) = 0
  | [], _ => ⟨rfl, rfl⟩
  | x :: r, h => by
    obtain ⟨h1, h2⟩ := dats_lay r fun y hy => h y (List.mem_cons_of_mem _ hy)
    obtain ⟨h3, h4⟩ := dat_lay (h x List.mem_cons_self)
    rw [List.map_cons]
    simp only [PyData.canLayAll0, PyData.depthAll, h1, h2, h3, h4]
    exact ⟨rfl, rfl⟩
theorem dats_shaped {xs : List V} (h : ∀ x ∈ xs, isDat x = true) : SeqAt.shaped (.list (xs.map dat)) = true := by
  obtain ⟨h1, h2⟩ := dats_lay xs h
  unfold SeqAt.shaped
  have e1 : PyData.canLay0 (.list (xs.map dat)) = true := h1
  have e2 : PyData.depth (.list (xs.map dat)) ≤ 64 := by
    simp only [PyData.depth, h2]
    decide
  rw [e1, decide_eq_true e2]
  rfl
theorem dats_eqv {xs : List V} (h : ∀ x ∈ xs, isDat x = true) : PyData.eqv (.list (xs.map dat)) (.list (xs.map dat)) = true := SeqAt.eqv_refl _ (dats_lay xs h).1
theorem x_neSame {K : PySem.W.Frag} {H : Hp} {Q : VK} {a b : Addr} {xs : List V} (h1 : SqL K H a xs) (h2 : SqL K H b xs) (hd : ∀ x ∈ xs, isDat x = true) (q : Q (.bl false) H) : rNeD K (.ref a) (.ref b) H Q :=
  ⟨_, _, .lst h1 (dp_all hd), .lst h2 (dp_all hd), dats_shaped hd, dats_shaped hd, by rw [dats_eqv hd]; exact q⟩
theorem x_eqSame {K : PySem.W.Frag} {H : Hp} {Q : VK} {a b : Addr} {xs : List V} (h1 : SqL K H a xs) (h2 : SqL K H b xs) (hd : ∀ x ∈ xs, isDat x = true) (q : Q (.bl true) H) : rEqD K (.ref a) (.ref b) H Q :=
  ⟨_, _, .lst h1 (dp_all hd), .lst h2 (dp_all hd), dats_shaped hd, dats_shaped hd, by rw [dats_eqv hd]; exact q⟩
/-! ### runs -/
theorem Kd.row {K : PySem.W.Frag} {H : Hp} {r : Addr} {xs : List V} (h : SqR K H r xs) : ∃ k, Kd K H (.ref r) k ∧ (isB k .lst || isB k .tup) = true := by
  rcases h with h | h
  · exact ⟨_, .lst h, rfl⟩
  · exact ⟨_, .tup h, rfl⟩
theorem SqR.same {K : PySem.W.Frag} {H H' : Hp} {r : Addr} {xs : List V} (h : SqR K H r xs) (s : L2.Same H H') : SqR K H' r xs := by
  rcases h with h | h
  · exact .inl (s.seq h)
  · exact .inr (same_t s h)
def toAt (l : List (Str × Sd)) (z s : Str) : Option Str := (l.lookup z).bind fun x => toS x s
/-- ts: the stands that the run passes -/
structure Trail (l : List (Str × Sd)) (st : Str) (run ts : List Str) : Prop where
  len : ts.length = run.length + 1
  at0 : ts[0]? = some st
  step : ∀ (i : Nat) (s z : Str), run[i]? = some s → ts[i]? = some z → ∃ t, toAt l z s = some t ∧ ts[i + 1]? = some t
def spIsRow (K : PySem.W.Frag) : Sp := fun vs H Q _ => ∃ x k, vs = [x] ∧ Kd K H x k ∧ ∀ H', L2.Same H H' → Q (.bl (isB k .lst || isB k .tup)) H'
def spPassed (K : PySem.W.Frag) (C : Addr) : Sp := fun vs H Q _ => ∃ (a r : Addr) (h : Int) (st : Str) (l : List (Str × Sd)) (run ts : List Str), vs = [.ref a, .ref r] ∧ WorkAt C H a h st l ∧ GoodT h l ∧ (∀ z x, l.lookup z = some x → SrtSd x) ∧ SqR K H r (strsV run) ∧ run.length ≤ 1000 ∧ Trail l st run ts ∧
  ∀ H' p, L2.Same H H' → H p = none → H' p = some (.lst (strsV ts)) → Q (.ref p) H'
def moverAt (l : List (Str × Sd)) (z : Str) : V := ((l.lookup z).map moverV).getD .non
def spMovers (K : PySem.W.Frag) (C : Addr) : Sp := fun vs H Q _ => ∃ (a r : Addr) (h : Int) (st : Str) (l : List (Str × Sd)) (run ts : List Str), vs = [.ref a, .ref r] ∧ WorkAt C H a h st l ∧ GoodT h l ∧ (∀ z x, l.lookup z = some x → SrtSd x) ∧ SqR K H r (strsV run) ∧ run.length ≤ 1000 ∧ Trail l st run ts ∧
  ∀ H' p, L2.Same H H' → H p = none → H' p = some (.lst ((ts.take run.length).map (moverAt l))) → Q (.ref p) H'
def spEnded (K : PySem.W.Frag) (C : Addr) : Sp := fun vs H Q _ => ∃ (a r : Addr) (h : Int) (st z : Str) (l : List (Str × Sd)) (x : Sd) (run ts : List Str), vs = [.ref a, .ref r] ∧ WorkAt C H a h st l ∧ GoodT h l ∧ (∀ z x, l.lookup z = some x → SrtSd x) ∧ SqR K H r (strsV run) ∧ run.length ≤ 1000 ∧ Trail l st run ts ∧
  ts[run.length]? = some z ∧ l.lookup z = some x ∧ ∀ H', L2.Same H H' → Q (.bl (isFin x)) H'
theorem toAt_some {l : List (Str × Sd)} {z s t : Str} (h : toAt l z s = some t) : ∃ x, l.lookup z = some x ∧ toS x s = some t := by
  unfold toAt at h
  cases e : l.lookup z with
  | none => rw [e] at h; cases h
  | some x => rw [e] at h; exact ⟨x, rfl, h⟩
theorem Trail.get {l : List (Str × Sd)} {st : Str} {run ts : List Str} (T : Trail l st run ts) {i : Nat} (h : i ≤ run.length) : ∃ z, ts[i]? = some z := ⟨ts[i]'(by rw [T.len]; omega), List.getElem?_eq_getElem _⟩
theorem wk_none {h : Int} {st m : Str} {t n e : Addr} {r : Bool} (hm : (["ringless", "ends", "names", "table", "start", "hands"] : List Str).contains m = false) : (wkF h st t n e r).lookup m = none := by
  refine wkF_none ?_ ?_ ?_ ?_ ?_ ?_ <;> (intro z; subst z; exact absurd hm (by decide +kernel))
section
variable {P : Program} {w : World} {K : PySem.W.Frag} {mg : Str → Option Value} {base : Heap} {CW : Addr}
theorem ok_is_row {f : Addr} {fd : FuncData} (F : Fun K "is_row" "is_row" s_is_row f fd) (Z_list : mg "list" = none) (Z_tuple : mg "tuple" = none) (Z_isinstance : mg "isinstance" = none) : FnOk P w K mg base CX0 1 f fd ["thing"] (spIsRow K) := by
  refine F.ok sc_is_row (fun vs H Q E h => ?_) (fun cdv A outer s H vs Q E hr h => ?_)
  · obtain ⟨_, _, rfl, _⟩ := h
    rfl
  · obtain ⟨x, k, rfl, hk, q⟩ := h
    refine ⟨_, (pss_one (ps_ret (pe_callB call_isiT (by rfl) Z_isinstance (by decide +kernel) (pa_cons (pv 0) (pa_cons (pe_tup (pa_cons (pe_bltn (v := .ty "list") (by rfl) Z_list (by decide +kernel) rfl) (pa_cons (pe_bltn (v := .ty "tuple") (by rfl) Z_tuple (by decide +kernel) rfl) pa_nil))) pa_nil))))), ?_⟩
    walk_at "go"
    refine ⟨by decide, fun p hp => ?_⟩
    walk_at "go"
    refine x_isiLT (hk.same (same_new hp)) upd_same ?_
    exact q _ (same_new hp)
theorem ok_passed {f : Addr} {fd : FuncData} (F : Fun K "passed" "passed" s_passed f fd) (K_Work : Cls K CW) (N1 : NoAttr K CW "start") (Z_enumerate : mg "enumerate" = none) (Z_str : mg "str" = none) (Z_isinstance : mg "isinstance" = none)
    (C_is_row : Cal P w K mg base 1 "is_row" ["thing"] (spIsRow K)) (T_Work_steps : Met P w K mg base CW 2 "steps" ["self", "stand"] (spSteps CW)) (T_Work_to : Met P w K mg base CW 2 "to" ["self", "stand", "step"] (spTo CW)) : FnOk P w K mg base CX0 3 f fd ["work", "run"] (spPassed K CW) := by
  refine F.ok sc_passed (fun vs H Q E h => ?_) (fun cdv A outer s H vs Q E hr h => ?_)
  · obtain ⟨_, _, _, _, _, _, _, rfl, _⟩ := h
    rfl
  · obtain ⟨a, r, h, st, l, run, ts, rfl, wa, g, so, hrun, hlen, T, q⟩ := h
    refine ⟨_, (pss_cons (ps_if (pt_not (pt_val (pe_cal C_is_row (hr.mono (by decide)) (by rfl) (pa_cons (pv 1) pa_nil))))
      (pss_one ps_never)
      pss_nil)
      (pss_cons (ps_set (i := 2) sc_passed.nd rfl (Or.inl rfl) (pe_fld (pv 0) rfl))
      (pss_cons (ps_set (i := 3) sc_passed.nd rfl (Or.inl rfl) (pe_lst (pa_cons (pv 2) pa_nil)))
      (pss_cons (ps_for PassesOwn.never rfl (pi_enumT (by rfl) Z_enumerate (pa_cons (pv 1) pa_nil)) (pg_tup rfl (pgs_cons (pg_name (i := 4) sc_passed.nd rfl (Or.inl rfl)) (pgs_cons (pg_name (i := 5) sc_passed.nd rfl (Or.inl rfl)) pgs_nil)))
      (pss_cons (ps_if (PW.pt (pw_or (pt_not (pt_val (pe_callB call_isi (by rfl) Z_isinstance (by decide +kernel) (pa_cons (pv 5) (pa_cons (pe_bltn (v := .ty "str") (by rfl) Z_str (by decide +kernel) rfl) pa_nil))))) (pw_or1 (pt_cmpR op_notIn_seq (pv 5) (pe_mt T_Work_steps K_Work (hr.mono (by decide)) (pv 0) (pa_cons (pv 2) pa_nil)) rfl))))
      (pss_one ps_never)
      pss_nil)
      (pss_cons (ps_set (i := 2) sc_passed.nd rfl (Or.inl rfl) (pe_mt T_Work_to K_Work (hr.mono (by decide)) (pv 0) (pa_cons (pv 2) (pa_cons (pv 5) pa_nil))))
      (pss_one (ps_expr (pe_bm PySem.F.plainAttrs_list PySem.F.slot_list_append PySem.F.type_list_append mt_append (pv 3) (pa_cons (pv 2) pa_nil)))))))
      (pss_one (ps_ret (pv 3))))))), ?_⟩
    obtain ⟨k, hk, hk2⟩ := Kd.row hrun
    walk_at "go"
    refine ⟨_, k, rfl, hk, fun H1 s1 => ?_⟩
    rw [hk2]
    walk_at "go"
    obtain ⟨dx, t, n, e, h1, _⟩ := id wa.ex
    refine x_fld K_Work N1 (s1 _ _ h1) wkF_start ?_
    walk_at "go"
    refine ⟨sz_le (by simp), fun p hp => ?_⟩
    have hp0 := s1.free hp
    walk_at "go"
    refine lpE (xs := strsV run) (fun i σ H' => ∃ z v4 v5, σ = [some (.ref a), some (.ref r), some (.str z), some (.ref p), v4, v5] ∧ ts[i]? = some z ∧ L2.Same H H' ∧ H' p = some (.lst (strsV (ts.take (i + 1))))) ?_ ?_ ?_ ?_
    · rcases hrun with h | h
      · exact .inl fun σ H' i _ ⟨_, _, _, _, _, s2, _⟩ => s2.seq h
      · exact .inr fun σ H' i _ ⟨_, _, _, _, _, s2, _⟩ => same_t s2 h
    · refine ⟨st, _, _, rfl, T.at0, same_upd s1 hp0, ?_⟩
      rw [upd_same, take_succ_get T.at0]
      rfl
    · rintro i x σ H2 TT hx ⟨z, v4, v5, rfl, hz, s2, hp2⟩ hT
      rw [List.getElem?_map] at hx
      cases hs : run[i]? with
      | none => rw [hs] at hx; cases hx
      | some sp1 =>
        rw [hs] at hx
        have ex : V.str sp1 = x := Option.some.inj hx
        subst ex
        have hi : i < run.length := (List.getElem?_eq_some_iff.mp hs).1
        obtain ⟨t1, ht1, ht2⟩ := T.step i sp1 z hs hz
        obtain ⟨y, hy, hy2⟩ := toAt_some ht1
        have s3 : L2.Same H (upd H2 TT (.tup [.int (i : Nat), .str sp1])) := same_upd s2 (s2.free hT)
        have hp3 : (upd H2 TT (.tup [.int (i : Nat), .str sp1])) p = some (.lst (strsV (ts.take (i + 1)))) := by rw [upd_ne (ne_of_none hp2 hT)]; exact hp2
        refine x_g2 (SqT.of upd_same) ?_
        generalize upd H2 TT (.tup [.int (i : Nat), .str sp1]) = H3 at s3 hp3 ⊢
        walk_at "go"
        refine x_isiStr (.str _) ?_
        walk_at "go"
        refine x_nT ?_
        walk_at "go"
        refine x_mti (s3 _ _ h1) (wk_none (by decide +kernel)) ?_
        walk_at "go"
        refine ⟨a, h, st, z, l, y, rfl, wa.same s3, hy, g.sd z y hy, so z y hy, fun H4 p4 s4 hp4 hp44 => ?_⟩
        refine x_ninL (SqL.of hp44) ?_
        refine ⟨_, rfl, ?_⟩
        refine x_nyes (toS_mem hy2) ?_
        walk_at "go"
        refine x_mti ((s3.trans s4) _ _ h1) (wk_none (by decide +kernel)) ?_
        walk_at "go"
        refine ⟨a, h, st, z, sp1, t1, l, y, rfl, wa.same (s3.trans s4), hy, hy2, ?_⟩
        walk_at "go"
        refine x_tyL (SqL.of (s4 _ _ hp3)) ?_
        walk_at "go"
        refine x_app (s4 _ _ hp3) (sz_lt (by have := T.len; simp; omega)) ?_
        walk_at "go"
        refine ⟨t1, _, _, rfl, ht2, same_upd (s3.trans s4) hp0, ?_⟩
        rw [upd_same, take_succ_get ht2]
        simp
    · rintro σ H2 ⟨z, v4, v5, rfl, hz, s2, hp2⟩
      rw [List.length_map, ← T.len, List.take_length] at hp2
      walk_at "go"
      exact q _ p s2 hp0 hp2
theorem ok_movers {f : Addr} {fd : FuncData} (F : Fun K "movers" "movers" s_movers f fd) (K_Work : Cls K CW)
    (C_passed : Cal P w K mg base 3 "passed" ["work", "run"] (spPassed K CW)) (T_Work_mover : Met P w K mg base CW 2 "mover" ["self", "stand"] (spMover CW)) : FnOk P w K mg base CX0 4 f fd ["work", "run"] (spMovers K CW) := by
  refine F.ok sc_movers (fun vs H Q E h => ?_) (fun cdv A outer s H vs Q E hr h => ?_)
  · obtain ⟨_, _, _, _, _, _, _, rfl, _⟩ := h
    rfl
  · obtain ⟨a, r, h, st, l, run, ts, rfl, wa, g, so, hrun, hlen, T, q⟩ := h
    refine ⟨_, (pss_cons (ps_set (i := 2) sc_movers.nd rfl (Or.inl rfl) (pe_cal C_passed (hr.mono (by decide)) (by rfl) (pa_cons (pv 0) (pa_cons (pv 1) pa_nil))))
      (pss_one (ps_ret (pe_lc (own := [("stand", 3)]) (g := gName 3) (tt := tYes) (by rfl) sc_movers.nd (pi_list (pe_slice sl_list (pv 2) po_none (po_some (pe_un un_neg pe_int)))) (blkOk_by (own := [("stand", 3)]) (N := N_movers) (sc := defScope s_movers) (by decide +kernel)) (fun _ _ _ _ _ => (pg_name (i := 3) sc_movers.nd rfl (Or.inl rfl))) (fun _ _ _ _ _ => pts_nil) (fun _ _ _ _ _ => by exact (pe_mt T_Work_mover K_Work (hr.mono (by decide)) (pv 0) (pa_cons (pv 3) pa_nil))))))), ?_⟩
    walk_at "go"
    refine ⟨a, r, h, st, l, run, ts, rfl, wa, g, so, hrun, hlen, T, fun H1 p s1 hp0 hp => ?_⟩
    walk_at "go"
    refine x_slL (SqL.of hp) fun c hc => ?_
    have ecut : cutV (strsV ts) none (some (-1)) = strsV (ts.take run.length) := by
      unfold cutV
      have e1 : HT.sIx (strsV ts).length 0 none = 0 := HT.sIx_none _ _
      have e2 : HT.sIx (strsV ts).length (strsV ts).length (some (-1)) = run.length := by
        show (if (-1 : Int) < 0 then ((-1 : Int) + ((strsV ts).length : Int)).toNat else min (-1 : Int).toNat (strsV ts).length) = run.length
        rw [if_pos (by decide), List.length_map, T.len]
        omega
      rw [e1, e2, List.drop_zero, Nat.sub_zero, ← List.map_take]
    rw [ecut]
    have s2 := s1.trans (same_new (o := .lst (strsV (ts.take run.length))) hc)
    have hc2 : (upd H1 c (.lst (strsV (ts.take run.length)))) c = some (.lst (strsV (ts.take run.length))) := upd_same
    generalize upd H1 c (.lst (strsV (ts.take run.length))) = H2 at s2 hc2 ⊢
    refine runL (SqL.of hc2) ?_
    intro D hD
    have hD0 := s2.free hD
    refine lcL (xs := strsV (ts.take run.length)) (fun i H' => L2.Same H2 H' ∧ H' D = some (.lst (((ts.take run.length).take i).map (moverAt l)))) ?_ ?_ ?_ ?_
    · exact ⟨same_new hD, upd_same⟩
    · exact fun i H' _ h => SqL.of (h.1 _ _ hc2)
    · rintro i x H3 hx ⟨s3, hD3⟩
      rw [List.getElem?_map] at hx
      cases hz : (ts.take run.length)[i]? with
      | none => rw [hz] at hx; cases hx
      | some z =>
        rw [hz] at hx
        have ex : V.str z = x := Option.some.inj hx
        subst ex
        have hi : i < run.length := by
          have := (List.getElem?_eq_some_iff.mp hz).1
          rw [List.length_take] at this
          omega
        have hz2 : ts[i]? = some z := by rw [List.getElem?_take_of_lt hi] at hz; exact hz
        obtain ⟨t1, ht1, _⟩ := T.step i run[i] z (List.getElem?_eq_getElem hi) hz2
        obtain ⟨y, hy, _⟩ := toAt_some ht1
        have em : moverAt l z = moverV y := by
          unfold moverAt
          rw [hy]
          rfl
        obtain ⟨dx, t, n, e, h1, _⟩ := id wa.ex
        walk_at "go"
        refine ⟨rfl, ?_⟩
        walk_at "go"
        refine x_mti ((s2.trans s3) _ _ h1) (wk_none (by decide +kernel)) ?_
        walk_at "go"
        refine ⟨a, h, st, z, l, y, rfl, wa.same (s2.trans s3), hy, ?_⟩
        refine ⟨_, hD3, sz_lt (by simp; omega), same_upd s3 hD, ?_⟩
        rw [upd_same, take_succ_get hz, List.map_append, List.map_cons, List.map_nil, em]
    · rintro H3 ⟨s3, hD3⟩
      rw [List.length_map, List.take_length] at hD3
      walk_at "go"
      exact q _ D (s2.trans s3) hD0 hD3
end
/-! ### trails grow -/
theorem Trail.nil (l : List (Str × Sd)) (st : Str) : Trail l st [] [st] := ⟨rfl, rfl, fun i s z h => by cases i <;> cases h⟩
theorem Trail.snoc {l : List (Str × Sd)} {st s z t : Str} {run ts : List Str} (T : Trail l st run ts) (hz : ts[run.length]? = some z) (ht : toAt l z s = some t) : Trail l st (run ++ [s]) (ts ++ [t]) := by
  have hl := T.len
  refine ⟨by rw [List.length_append, List.length_append, hl]; rfl, ?_, fun i s1 z1 h1 h2 => ?_⟩
  · rw [List.getElem?_append_left (by omega)]
    exact T.at0
  · by_cases hi : i < run.length
    · rw [List.getElem?_append_left hi] at h1
      rw [List.getElem?_append_left (by omega)] at h2
      obtain ⟨t1, h3, h4⟩ := T.step i s1 z1 h1 h2
      refine ⟨t1, h3, ?_⟩
      rw [List.getElem?_append_left (by omega)]
      exact h4
    · have hi2 : i = run.length := by
        have := (List.getElem?_eq_some_iff.mp h1).1
        rw [List.length_append] at this
        simp at this
        omega
      subst hi2
      rw [List.getElem?_append_right (Nat.le_refl _), Nat.sub_self] at h1
      rw [List.getElem?_append_left (by omega), hz] at h2
      cases h1
      cases h2
      refine ⟨t, ht, ?_⟩
      rw [List.getElem?_append_right (by omega), hl, Nat.sub_self]
      rfl
/-! ### runs, with what is refused -/
def stepV (l : List (Str × Sd)) (z : Str) : V → Option Str
  | .str s => toAt l z s
  | _ => none
/-- the first item that is no step in its turn -/
def badI (l : List (Str × Sd)) : Str → List V → Option Nat
  | _, [] => none
  | z, y :: r => match stepV l z y with
    | some t => (badI l t r).map (· + 1)
    | none => some 0
/-- behind i items z stands -/
def BiAt (l : List (Str × Sd)) (st : Str) (xs : List V) (i : Nat) (z : Str) : Prop := badI l st xs = (badI l z (xs.drop i)).map (· + i)
theorem BiAt.zero {l : List (Str × Sd)} {st : Str} {xs : List V} : BiAt l st xs 0 st := by
  show badI l st xs = (badI l st (xs.drop 0)).map (· + 0)
  rw [List.drop_zero]
  cases badI l st xs <;> rfl
theorem drop_at {α : Type} {xs : List α} {i : Nat} {y : α} (h : xs[i]? = some y) : xs.drop i = y :: xs.drop (i + 1) := by
  obtain ⟨hi, e⟩ := List.getElem?_eq_some_iff.mp h
  rw [List.drop_eq_getElem_cons hi, e]
theorem BiAt.step {l : List (Str × Sd)} {st z t : Str} {xs : List V} {i : Nat} {y : V} (b : BiAt l st xs i z) (hy : xs[i]? = some y) (ht : stepV l z y = some t) : BiAt l st xs (i + 1) t := by
  have b : badI l st xs = (badI l z (xs.drop i)).map (· + i) := b
  show badI l st xs = (badI l t (xs.drop (i + 1))).map (· + (i + 1))
  rw [b, drop_at hy]
  show Option.map (· + i) (match stepV l z y with | some t => (badI l t (xs.drop (i + 1))).map (· + 1) | none => some 0) = _
  rw [ht]
  show Option.map (· + i) ((badI l t (xs.drop (i + 1))).map (· + 1)) = _
  cases badI l t (xs.drop (i + 1)) with
  | none => rfl
  | some k => show some (k + 1 + i) = some (k + (i + 1)); rw [Nat.add_assoc, Nat.add_comm 1 i]
theorem BiAt.bad {l : List (Str × Sd)} {st z : Str} {xs : List V} {i : Nat} {y : V} (b : BiAt l st xs i z) (hy : xs[i]? = some y) (ht : stepV l z y = none) : badI l st xs = some i := by
  have b : badI l st xs = (badI l z (xs.drop i)).map (· + i) := b
  rw [b, drop_at hy]
  show Option.map (· + i) (match stepV l z y with | some t => (badI l t (xs.drop (i + 1))).map (· + 1) | none => some 0) = _
  rw [ht]
  show some (0 + i) = some i
  rw [Nat.zero_add]
theorem BiAt.done {l : List (Str × Sd)} {st z : Str} {xs : List V} (b : BiAt l st xs xs.length z) : badI l st xs = none := by
  have b : badI l st xs = (badI l z (xs.drop xs.length)).map (· + xs.length) := b
  rw [b, List.drop_length]
  rfl
theorem Trail.cons {l : List (Str × Sd)} {z s t : Str} {run ts : List Str} (T : Trail l t run ts) (ht : toAt l z s = some t) : Trail l z (s :: run) (z :: ts) := by
  refine ⟨by rw [List.length_cons, List.length_cons, T.len], rfl, fun i s1 z1 h1 h2 => ?_⟩
  cases i with
  | zero =>
    have e1 : s = s1 := Option.some.inj h1
    have e2 : z = z1 := Option.some.inj h2
    subst e1 e2
    exact ⟨t, ht, T.at0⟩
  | succ i => exact T.step i s1 z1 h1 h2
theorem run_of {l : List (Str × Sd)} : ∀ {xs : List V} {st : Str}, badI l st xs = none → ∃ run ts, xs = strsV run ∧ Trail l st run ts
  | [], st, _ => ⟨[], [st], rfl, Trail.nil l st⟩
  | y :: r, st, h => by
    have h2 : (match stepV l st y with | some t => (badI l t r).map (· + 1) | none => some 0) = none := h
    cases e : stepV l st y with
    | none => rw [e] at h2; cases h2
    | some t =>
      rw [e] at h2
      have h3 : (badI l t r).map (· + 1) = none := h2
      cases e2 : badI l t r with
      | some k => rw [e2] at h3; cases h3
      | none =>
        obtain ⟨run, ts, rfl, T⟩ := run_of e2
        cases y with
        | str s => exact ⟨s :: run, st :: ts, rfl, T.cons e⟩
        | _ => cases e
theorem stepV_str {l : List (Str × Sd)} {z t : Str} {y : V} (h : stepV l z y = some t) : ∃ s, y = .str s ∧ toAt l z s = some t := by
  cases y with
  | str s => exact ⟨s, rfl, h⟩
  | _ => cases h
theorem badI_lt {l : List (Str × Sd)} : ∀ {xs : List V} {st : Str} {i : Nat}, badI l st xs = some i → i < xs.length
  | [], _, _, h => by cases h
  | y :: r, st, i, h => by
    have h2 : (match stepV l st y with | some t => (badI l t r).map (· + 1) | none => some 0) = some i := h
    cases e : stepV l st y with
    | none => rw [e] at h2; cases h2; exact Nat.zero_lt_succ _
    | some t =>
      rw [e] at h2
      have h3 : (badI l t r).map (· + 1) = some i := h2
      cases e2 : badI l t r with
      | none => rw [e2] at h3; cases h3
      | some k =>
        rw [e2] at h3
        have : k + 1 = i := Option.some.inj h3
        have := badI_lt e2
        rw [List.length_cons]
        omega
theorem toS_good {h : Int} {ns : List Str} {x : Sd} {s t : Str} (g : GoodSd h ns x) (e : toS x s = some t) : t ∈ ns := by
  cases x with
  | fin => cases e
  | chance l =>
    have e : (l.lookup s).map (·.1) = some t := e
    cases e2 : l.lookup s with
    | none => rw [e2] at e; cases e
    | some q =>
      rw [e2] at e
      have e3 : q.1 = t := Option.some.inj e
      rw [← e3]
      exact (g.2.2.2 (s, q) (lookup_mem e2)).2.1
  | hand k l => exact (g.2.2.2.2.2 (s, t) (lookup_mem (show l.lookup s = some t from e))).2
/-- x is no run: i tells where -/
def NoRunV (K : PySem.W.Frag) (H : Hp) (l : List (Str × Sd)) (st : Str) (x : V) (i : Int) : Prop := (∃ k, Kd K H x k ∧ (isB k .lst || isB k .tup) = false ∧ i = -1) ∨
  ∃ (r : Addr) (xs : List V) (j : Nat), x = .ref r ∧ SqR K H r xs ∧ xs.length ≤ 1000 ∧ (∀ y ∈ xs, ∃ k, Kd K H y k) ∧ badI l st xs = some j ∧ i = (j : Int)
def spPassedNo (K : PySem.W.Frag) (C CR : Addr) : Sp := fun vs H _ E => ∃ (a : Addr) (x : V) (h i : Int) (st : Str) (l : List (Str × Sd)), vs = [.ref a, x] ∧ WorkAt C H a h st l ∧ GoodT h l ∧ (∀ z x, l.lookup z = some x → SrtSd x) ∧ st ∈ l.map (·.1) ∧ NoRunV K H l st x i ∧ EXF E H CR "index" (.int i)
def spPassedX (K : PySem.W.Frag) (C CR : Addr) : Sp := spOr (spPassed K C) (spPassedNo K C CR)
def spMoversX (K : PySem.W.Frag) (C CR : Addr) : Sp := spOr (spMovers K C) (spPassedNo K C CR)
def spEndedX (K : PySem.W.Frag) (C CR : Addr) : Sp := spOr (spEnded K C) (spPassedNo K C CR)
section
variable {P : Program} {w : World} {K : PySem.W.Frag} {mg : Str → Option Value} {base : Heap} {CW CR : Addr}
theorem ok_passedX {f : Addr} {fd : FuncData} (F : Fun K "passed" "passed" s_passed f fd) (K_Work : Cls K CW) (N1 : NoAttr K CW "start") (Z_enumerate : mg "enumerate" = none) (Z_str : mg "str" = none) (Z_isinstance : mg "isinstance" = none)
    (C_is_row : Cal P w K mg base 1 "is_row" ["thing"] (spIsRow K)) (T_Work_steps : Met P w K mg base CW 2 "steps" ["self", "stand"] (spSteps CW)) (T_Work_to : Met P w K mg base CW 2 "to" ["self", "stand", "step"] (spTo CW)) (E_BadRun : ExcF P K mg "BadRun" "index" CR) : FnOk P w K mg base (L2.CX P w) 3 f fd ["work", "run"] (spPassedX K CW CR) := by
  refine fn_or (ok_passed F K_Work N1 Z_enumerate Z_str Z_isinstance C_is_row T_Work_steps T_Work_to) (F.okX sc_passed (fun vs H Q E h => ?_) (fun cdv A outer s H vs Q E hr h => ?_))
  · obtain ⟨_, _, _, _, _, _, rfl, _⟩ := h
    rfl
  · obtain ⟨a, x, h, i0, st, l, rfl, wa, g, so, hst, no, q⟩ := h
    have hu := hu_of hr
    obtain ⟨dx, t, n, e, h1, _⟩ := id wa.ex
    refine ⟨_, (pss_cons (ps_if (pt_not (pt_val (pe_cal C_is_row (hr.mono (by decide)) (by rfl) (pa_cons (pv 1) pa_nil))))
      (pss_one (ps_raiseS rfl (takes_of rfl rfl rfl rfl) E_BadRun hr (by rfl) (pa_cons (pe_un un_neg pe_int) pa_nil)))
      pss_nil)
      (pss_cons (ps_set (i := 2) sc_passed.nd rfl (Or.inl rfl) (pe_fld (pv 0) rfl))
      (pss_cons (ps_set (i := 3) sc_passed.nd rfl (Or.inl rfl) (pe_lst (pa_cons (pv 2) pa_nil)))
      (pss_cons (ps_for (passes_of rfl) rfl (pi_enumT (by rfl) Z_enumerate (pa_cons (pv 1) pa_nil)) (pg_tup rfl (pgs_cons (pg_name (i := 4) sc_passed.nd rfl (Or.inl rfl)) (pgs_cons (pg_name (i := 5) sc_passed.nd rfl (Or.inl rfl)) pgs_nil)))
      (pss_cons (ps_if (PW.pt (pw_or (pt_not (pt_val (pe_callB call_isi (by rfl) Z_isinstance (by decide +kernel) (pa_cons (pv 5) (pa_cons (pe_bltn (v := .ty "str") (by rfl) Z_str (by decide +kernel) rfl) pa_nil))))) (pw_or1 (pt_cmpR op_notIn_seq (pv 5) (pe_mt T_Work_steps K_Work (hr.mono (by decide)) (pv 0) (pa_cons (pv 2) pa_nil)) rfl))))
      (pss_one (ps_raiseS rfl (takes_of rfl rfl rfl rfl) E_BadRun hr (by rfl) (pa_cons (pv 4) pa_nil)))
      pss_nil)
      (pss_cons (ps_set (i := 2) sc_passed.nd rfl (Or.inl rfl) (pe_mt T_Work_to K_Work (hr.mono (by decide)) (pv 0) (pa_cons (pv 2) (pa_cons (pv 5) pa_nil))))
      (pss_one (ps_expr (pe_bm PySem.F.plainAttrs_list PySem.F.slot_list_append PySem.F.type_list_append mt_append (pv 3) (pa_cons (pv 2) pa_nil)))))))
      (pss_one (ps_ret (pv 3))))))), ?_⟩
    walk_at "go"
    rcases no with ⟨k, hk, hk2, rfl⟩ | ⟨r, xs, j0, rfl, hrun, hlen, hks, hb, rfl⟩
    · refine ⟨_, k, rfl, hk, fun H1 s1 => ?_⟩
      rw [hk2]
      walk_at "go"
      refine x_raiseS ?_
      walk_at "go"
      exact ⟨_, rfl, fun d hd => q _ d s1 hd⟩
    · obtain ⟨k, hk, hk2⟩ := Kd.row hrun
      refine ⟨_, k, rfl, hk, fun H1 s1 => ?_⟩
      rw [hk2]
      walk_at "go"
      refine x_fld K_Work N1 (s1 _ _ h1) wkF_start ?_
      walk_at "go"
      refine ⟨sz_le (by simp), fun p hp => ?_⟩
      have hp0 := s1.free hp
      walk_at "go"
      refine lpE (xs := xs) (fun i σ H' => ∃ z v4 v5 fs, σ = [some (.ref a), some (.ref r), some (.str z), some (.ref p), v4, v5] ∧ z ∈ l.map (·.1) ∧ BiAt l st xs i z ∧ L2.Same H H' ∧ H' p = some (.lst (strsV fs)) ∧ fs.length ≤ i + 1) ?_ ?_ ?_ ?_
      · rcases hrun with h | h
        · exact .inl fun σ H' i _ ⟨_, _, _, _, _, _, _, s2, _⟩ => s2.seq h
        · exact .inr fun σ H' i _ ⟨_, _, _, _, _, _, _, s2, _⟩ => same_t s2 h
      · exact ⟨st, _, _, [st], rfl, hst, .zero, same_upd s1 hp0, upd_same, by simp⟩
      · rintro i y σ H2 TT hy ⟨z, v4, v5, fs, rfl, hz, bi, s2, hp2, hfl⟩ hT
        have hi : i < xs.length := (List.getElem?_eq_some_iff.mp hy).1
        obtain ⟨ky, hky⟩ := hks y (List.mem_of_getElem? hy)
        obtain ⟨sd, hsd⟩ := lookup_isSome hz
        have s3 : L2.Same H (upd H2 TT (.tup [.int (i : Nat), y])) := same_upd s2 (s2.free hT)
        have hp3 : (upd H2 TT (.tup [.int (i : Nat), y])) p = some (.lst (strsV fs)) := by rw [upd_ne (ne_of_none hp2 hT)]; exact hp2
        refine x_g2 (SqT.of upd_same) ?_
        generalize upd H2 TT (.tup [.int (i : Nat), y]) = H3 at s3 hp3 ⊢
        have bad : ∀ H4, L2.Same H H4 → stepV l z y = none → ∀ d, H4 d = none → E (.ref CR) (some d) (upd H4 d (.xd [("index", .int (i : Nat))])) := fun H4 s4 hn d hd => by
          have e1 := bi.bad hy hn
          rw [hb] at e1
          have e2 : j0 = i := Option.some.inj e1
          rw [← e2]
          exact q H4 d s4 hd
        walk_at "go"
        refine x_isiStr (hky.same s3) ?_
        by_cases hk : ky = .str
        · subst hk
          obtain ⟨y0, rfl⟩ : ∃ y0, y = .str y0 := by
            cases hky with
            | str y0 => exact ⟨y0, rfl⟩
          walk_at "go"
          refine x_nT ?_
          walk_at "go"
          refine x_mti (s3 _ _ h1) (wk_none (by decide +kernel)) ?_
          walk_at "go"
          refine ⟨a, h, st, z, l, sd, rfl, wa.same s3, hsd, g.sd z sd hsd, so z sd hsd, fun H4 p4 s4 hp4 hp44 => ?_⟩
          have s34 := s3.trans s4
          refine x_ninL (SqL.of hp44) ?_
          refine ⟨_, rfl, ?_⟩
          refine x_ndec (fun hn => ?_) (fun hm => ?_)
          · walk_at "go"
            refine x_raiseS ?_
            walk_at "go"
            refine ⟨_, rfl, bad _ s34 ?_⟩
            show (l.lookup z).bind (fun x => toS x y0) = none
            rw [hsd]
            show toS sd y0 = none
            cases e0 : toS sd y0 with
            | none => rfl
            | some t0 => exact absurd (toS_mem e0) hn
          · obtain ⟨t1, ht1⟩ := toS_some hm
            have ht : stepV l z (.str y0) = some t1 := by
              show (l.lookup z).bind (fun x => toS x y0) = _
              rw [hsd]
              exact ht1
            walk_at "go"
            refine x_mti (s34 _ _ h1) (wk_none (by decide +kernel)) ?_
            walk_at "go"
            refine ⟨a, h, st, z, y0, t1, l, sd, rfl, wa.same s34, hsd, ht1, ?_⟩
            walk_at "go"
            refine x_tyL (SqL.of (s4 _ _ hp3)) ?_
            walk_at "go"
            refine x_app (s4 _ _ hp3) (sz_lt (by rw [List.length_map]; omega)) ?_
            walk_at "go"
            refine ⟨t1, _, _, fs ++ [t1], rfl, ?_, bi.step hy ht, same_upd s34 hp0, ?_, by rw [List.length_append]; simp; omega⟩
            · exact toS_good (g.sd z sd hsd) ht1
            · rw [upd_same]
              exact congrArg (fun z => some (HO.lst z)) (List.map_append (f := V.str) (l₁ := fs) (l₂ := [t1])).symm
        · rw [not_strK hk]
          walk_at "go"
          refine x_raiseS ?_
          walk_at "go"
          refine ⟨_, rfl, bad _ s3 ?_⟩
          cases hky with
          | str y0 => exact absurd rfl hk
          | _ => rfl
      · rintro σ H2 ⟨z, v4, v5, fs, rfl, hz, bi, s2, hp2, hfl⟩
        rw [bi.done] at hb
        cases hb
theorem ok_moversX {f : Addr} {fd : FuncData} (F : Fun K "movers" "movers" s_movers f fd) (K_Work : Cls K CW) (C_right : Cal P w K mg base 3 "passed" ["work", "run"] (spPassed K CW)) (T_Work_mover : Met P w K mg base CW 2 "mover" ["self", "stand"] (spMover CW)) (X_passed : CalX P w K mg base 3 "passed" ["work", "run"] (spPassedX K CW CR)) : FnOk P w K mg base (L2.CX P w) 4 f fd ["work", "run"] (spMoversX K CW CR) := by
  refine fn_or (ok_movers F K_Work C_right T_Work_mover) (F.okX sc_movers (fun vs H Q E h => ?_) (fun cdv A outer s H vs Q E hr h => ?_))
  · obtain ⟨_, _, _, _, _, _, rfl, _⟩ := h
    rfl
  · refine ⟨_, (pss_cons (ps_set (i := 2) sc_movers.nd rfl (Or.inl rfl) (pe_calX X_passed (hr.mono (by decide)) (by rfl) (takes_of rfl rfl rfl rfl) (pa_cons (pv 0) (pa_cons (pv 1) pa_nil))))
      (pss_one (ps_ret (pe_lc (own := [("stand", 3)]) (g := gName 3) (tt := tYes) (by rfl) sc_movers.nd (pi_list (pe_slice sl_list (pv 2) po_none (po_some (pe_un un_neg pe_int)))) (blkOk_by (own := [("stand", 3)]) (N := N_movers) (sc := defScope s_movers) (by decide +kernel)) (fun _ _ _ _ _ => (pg_name (i := 3) sc_movers.nd rfl (Or.inl rfl))) (fun _ _ _ _ _ => pts_nil) (fun _ _ _ _ _ => by exact (pe_mt T_Work_mover K_Work (hr.mono (by decide)) (pv 0) (pa_cons (pv 3) pa_nil))))))), ?_⟩
    obtain ⟨a, x, h, i0, st, l, rfl, z⟩ := h
    walk_at "go"
    refine x_callS ?_
    walk_at "go"
    exact .inr ⟨a, x, h, i0, st, l, rfl, z⟩
end
/-! ### runs over a sorted table -/
theorem toAt_sort {h : Int} {l lw : List (Str × Sd)} (g : GoodT h l) (T : TabSort l lw) (z s : Str) : toAt lw z s = toAt l z s := by
  unfold toAt
  cases e : l.lookup z with
  | some x =>
    obtain ⟨x', hx', hs⟩ := tab_look T e
    rw [hx']
    exact sort_toS (g.sd z x e) hs s
  | none =>
    have : lw.lookup z = none := by
      cases e2 : lw.lookup z with
      | none => rfl
      | some x' =>
        obtain ⟨x, hx, _⟩ := T.sd z x' e2
        rw [e] at hx
        cases hx
    rw [this]
theorem stepV_sort {h : Int} {l lw : List (Str × Sd)} (g : GoodT h l) (T : TabSort l lw) (z : Str) (y : V) : stepV lw z y = stepV l z y := by
  cases y with
  | str s => exact toAt_sort g T z s
  | _ => rfl
theorem badI_sort {h : Int} {l lw : List (Str × Sd)} (g : GoodT h l) (T : TabSort l lw) : ∀ (xs : List V) (st : Str), badI lw st xs = badI l st xs
  | [], _ => rfl
  | y :: r, st => by
    have e : stepV lw st y = stepV l st y := by
      cases y with
      | str s => exact toAt_sort g T st s
      | _ => rfl
    show (match stepV lw st y with | some t => (badI lw t r).map (· + 1) | none => some 0) = (match stepV l st y with | some t => (badI l t r).map (· + 1) | none => some 0)
    rw [e]
    cases stepV l st y with
    | none => rfl
    | some t => show (badI lw t r).map _ = (badI l t r).map _; rw [badI_sort g T r t]
theorem Trail.sort {h : Int} {l lw : List (Str × Sd)} (g : GoodT h l) (T : TabSort l lw) {st : Str} {run ts : List Str} (t : Trail l st run ts) : Trail lw st run ts := ⟨t.len, t.at0, fun i s z h1 h2 => by
  obtain ⟨t1, h3, h4⟩ := t.step i s z h1 h2
  exact ⟨t1, by rw [toAt_sort g T]; exact h3, h4⟩⟩
theorem run_nm {h : Int} {l : List (Str × Sd)} (g : GoodT h l) {st : Str} {run ts : List Str} (T : Trail l st run ts) : ∀ s ∈ run, NameS s := fun s hs => by
  obtain ⟨i, hi, e⟩ := List.getElem_of_mem hs
  have h1 : run[i]? = some s := by rw [List.getElem?_eq_getElem hi, e]
  have h2 : ts[i]? = some (ts[i]'(by rw [T.len]; omega)) := List.getElem?_eq_getElem _
  obtain ⟨t, h3, _⟩ := T.step i s _ h1 h2
  obtain ⟨x, hx, hto⟩ := toAt_some h3
  exact steps_nm (g.sd _ x hx) s (toS_mem hto)
theorem seqR_of {K : PySem.W.Frag} {H : Hp} {r : Addr} {xs : List V} (h : H r = some (.lst xs) ∨ H r = some (.tup xs)) : SqR K H r xs := h.imp SqL.of SqT.of
/-! ### k57: a run with one item put in (plain) -/
theorem badI_ins {l : List (Str × Sd)} {st : Str} {run tr : List Str} (T : Trail l st run tr) {n : Nat} {odd : V} (hn : n ≤ run.length) (no : ∀ z, stepV l z odd = none) : badI l st ((strsV run).take n ++ [odd] ++ (strsV run).drop n) = some n := by
  have len : ((strsV run).take n).length = n := by rw [List.length_take, List.length_map]; omega
  have go : ∀ i, i ≤ n → ∃ z, tr[i]? = some z ∧ BiAt l st ((strsV run).take n ++ [odd] ++ (strsV run).drop n) i z := by
    intro i
    induction i with
    | zero => exact fun _ => ⟨st, T.at0, .zero⟩
    | succ i ih =>
      intro hi
      obtain ⟨z, hz, b⟩ := ih (by omega)
      obtain ⟨s, hs⟩ : ∃ s, run[i]? = some s := ⟨_, List.getElem?_eq_getElem (by omega)⟩
      obtain ⟨t, ht, ht2⟩ := T.step i s z hs hz
      refine ⟨t, ht2, b.step (y := .str s) ?_ ht⟩
      rw [List.append_assoc, List.getElem?_append_left (by omega), List.getElem?_take_of_lt (by omega), List.getElem?_map, hs]
      rfl
  obtain ⟨z, _, b⟩ := go n (Nat.le_refl _)
  refine b.bad (y := odd) ?_ (no z)
  rw [List.append_assoc, List.getElem?_append_right (by omega), len, Nat.sub_self]
  rfl
theorem no_stepN {l : List (Str × Sd)} (h4 : ∀ z x, l.lookup z = some x → ∀ s ∈ stepsL x, NameS s ∧ s.length ≤ 4) {s : Str} (hs : ¬ (NameS s ∧ s.length ≤ 4)) (z : Str) : stepV l z (.str s) = none := by
  show toAt l z s = none
  cases e : toAt l z s with
  | none => rfl
  | some t =>
    obtain ⟨x, hx, h⟩ := toAt_some e
    exact absurd (h4 z x hx s (toS_mem h)) hs
/-! ### repr of data with dicts of many kinds of keys -/
mutual
inductive ShU (w : World) (H : Hp) : V → PyData → Prop
  | non : ShU w H .non .none
  | bl (b : Bool) : ShU w H (.bl b) (.bool b)
  | int (i : Int) : ShU w H (.int i) (.int i)
  | str (x : Str) : ShU w H (.str x) (.str x)
  | lst {a : Addr} {xs : List V} {ds : List PyData} : Rd H a (.lst xs) → ShUA w H xs ds → ShU w H (.ref a) (.list ds)
  | tup {a : Addr} {xs : List V} {ds : List PyData} : H a = some (.tup xs) → ShUA w H xs ds → ShU w H (.ref a) (.tuple ds)
  | dM {a : Addr} {kvs : MV} {ks ds : List PyData} : MRd w H a kvs → ShUA w H (kvs.map (·.2.1)) ks → ShUA w H (kvs.map (·.2.2)) ds → ShU w H (.ref a) (.dict (ks.zip ds))
inductive ShUA (w : World) (H : Hp) : List V → List PyData → Prop
  | nil : ShUA w H [] []
  | cons {v : V} {d : PyData} {vs : List V} {ds : List PyData} : ShU w H v d → ShUA w H vs ds → ShUA w H (v :: vs) (d :: ds)
end
theorem ShUA.len {w : World} {H : Hp} : ∀ {vs : List V} {ds : List PyData}, ShUA w H vs ds → ds.length = vs.length
  | _, _, .nil => rfl
  | _, _, .cons _ r => by simp [r.len]
theorem mrd_ne {w : World} {H : Hp} {a : Addr} {kvs : MV} (m : MRd w H a kvs) : H a ≠ none := by
  rcases m with (z | ⟨o, z⟩) | ⟨ks, z | ⟨o, z⟩, _⟩ <;> rw [z] <;> simp
theorem rm_vals {kvs : MV} {xs : MX} (r : Paired RM kvs xs) : Vals (kvs.map (·.2.1)) (xs.map (·.2.1)) ∧ Vals (kvs.map (·.2.2)) (xs.map (·.2.2)) := by
  induction r with
  | nil => exact ⟨.nil, .nil⟩
  | cons h t ih => exact ⟨.cons h.2.1 ih.1, .cons h.2.2 ih.2⟩
mutual
theorem ShU.reads {P : Program} {w : World} {H : Hp} {h : Heap} (ok : HOk P w H h) : ∀ {v : V} {d : PyData}, ShU w H v d → ∀ {u : Value}, RelV v u → ∃ as, Reads h u d as ∧ ∀ b ∈ as, H b ≠ none
  | _, _, .non, u, r => by
    obtain rfl : u = Value.none := r
    exact ⟨[], .none, fun b hb => by cases hb⟩
  | _, _, .bl b, u, r => by
    obtain rfl : u = Value.bool b := r
    exact ⟨[], .bool b, fun b hb => by cases hb⟩
  | _, _, .int i, u, r => by
    obtain ⟨t, rfl⟩ := r
    exact ⟨[], .int i t, fun b hb => by cases hb⟩
  | _, _, .str x, u, r => by
    obtain ⟨t, rfl⟩ := r
    exact ⟨[], .str x t, fun b hb => by cases hb⟩
  | _, _, .lst (a := a) (xs := xs) ha hs, u, r => by
    obtain rfl : u = Value.ref a := r
    obtain ⟨_, its, n, rv, hg⟩ := ha.ok ok
    obtain ⟨as, hr, hn⟩ := ShUA.reads ok hs rv
    refine ⟨a :: as, .list hg rfl rfl hr, fun b hb => ?_⟩
    rcases List.mem_cons.mp hb with rfl | hb
    · rcases ha with z | ⟨o, z⟩ <;> rw [z] <;> simp
    · exact hn b hb
  | _, _, .tup (a := a) ha hs, u, r => by
    obtain rfl : u = Value.ref a := r
    obtain ⟨_, its, rv, o, hg, hc, n, hd⟩ := ok a _ ha
    obtain ⟨as, hr, hn⟩ := ShUA.reads ok hs rv
    exact ⟨as, .tuple hg hc hd hr, hn⟩
  | _, _, .dM (a := a) (kvs := kvs) (ks := ks) (ds := ds) ha hk hs, u, r => by
    obtain rfl : u = Value.ref a := r
    obtain ⟨_, _, xs, rel, o, es, ep, hg, hx, hd, he, _⟩ := ha.ph ok
    obtain ⟨r1, r2⟩ := rm_vals rel
    obtain ⟨as, hr1, hn1⟩ := ShUA.reads ok hk r1
    obtain ⟨bs, hr2, hn2⟩ := ShUA.reads ok hs r2
    have el : ks.length = ds.length := by rw [hk.len, hs.len, List.length_map, List.length_map]
    refine ⟨a :: as ++ bs, .dict hg hx.1 hd ?_ ?_, fun b hb => ?_⟩
    · rw [he, List.map_map, List.map_fst_zip (Nat.le_of_eq el)]
      exact hr1
    · rw [he, List.map_map, List.map_snd_zip (Nat.le_of_eq el.symm)]
      exact hr2
    · rcases List.mem_append.mp hb with hb | hb
      · rcases List.mem_cons.mp hb with rfl | hb
        · exact mrd_ne ha
        · exact hn1 b hb
      · exact hn2 b hb
theorem ShUA.reads {P : Program} {w : World} {H : Hp} {h : Heap} (ok : HOk P w H h) : ∀ {vs : List V} {ds : List PyData}, ShUA w H vs ds → ∀ {us : List Value}, Vals vs us → ∃ as, ReadsAll h us ds as ∧ ∀ b ∈ as, H b ≠ none
  | _, _, .nil, us, r => by
    cases r
    exact ⟨[], .nil, fun b hb => by cases hb⟩
  | _, _, .cons hv hs, us, r => by
    cases r with
    | cons r1 r2 =>
      obtain ⟨as, h1, n1⟩ := ShU.reads ok hv r1
      obtain ⟨bs, h2, n2⟩ := ShUA.reads ok hs r2
      exact ⟨as ++ bs, .cons h1 h2, fun b hb => (List.mem_append.mp hb).elim (n1 b) (n2 b)⟩
end
mutual
theorem ShU.same {w : World} {H H' : Hp} (s : L2.Same H H') : ∀ {v : V} {d : PyData}, ShU w H v d → ShU w H' v d
  | _, _, .non => .non
  | _, _, .bl b => .bl b
  | _, _, .int i => .int i
  | _, _, .str x => .str x
  | _, _, .lst h hs => .lst (rd_same s h) (ShUA.same s hs)
  | _, _, .tup h hs => .tup (s _ _ h) (ShUA.same s hs)
  | _, _, .dM h hk hs => .dM (h.same s) (ShUA.same s hk) (ShUA.same s hs)
theorem ShUA.same {w : World} {H H' : Hp} (s : L2.Same H H') : ∀ {vs : List V} {ds : List PyData}, ShUA w H vs ds → ShUA w H' vs ds
  | _, _, .nil => .nil
  | _, _, .cons h hs => .cons (ShU.same s h) (ShUA.same s hs)
end
def rReprU (w : World) : List V → Hp → VK → Prop := fun xs H Q => ∃ (v : V) (d : PyData), xs = [v] ∧ ShU w H v d ∧ d.showable = true ∧ d.depth ≤ 64 ∧ d.shown.length ≤ sizeLine ∧ Q (.str d.shown) H
theorem call_reprU {X : Cx} (hg : X.A.guards = some []) (hu : X.A.units + 100 < cLine) (hm : (X.K.lookup sysModules).isSome = true) : CallR X (.builtin "repr") (rReprU X.w) := by
  intro pins s σ H xs us Q I r h
  obtain ⟨v, d, rfl, sh, hs, hd, hz, q⟩ := h
  obtain ⟨u, rfl, ru⟩ := vals1 r
  have deep : ∀ a, v = .ref a → wpAny (model X.prog X.w) X.A (call (.builtin "repr") [u]) (EP X pins σ Q) X.xe s := by
    rintro a rfl
    obtain rfl : u = Value.ref a := ru
    obtain ⟨as, hr, hn⟩ := sh.reads I.hok rfl
    obtain ⟨o, ho⟩ := Option.isSome_iff_exists.mp hm
    have nm : sysModules ∉ as := fun z => hn _ z (I.bs _ _ (I.mod.kin _ _ ho)).2
    exact repr_of_reads' hr hs (fun _ => nm) hg (by omega) (fun _ _ e => e) (fun h' u tk k => ⟨.str _, H, I.kept k, ⟨_, rfl⟩, q⟩) hz
  cases sh with
  | non =>
    obtain rfl : u = Value.none := ru
    exact PySem.P.repr_of_none ⟨.str _, H, I.tok _, ⟨_, rfl⟩, q⟩
  | bl b =>
    obtain rfl : u = Value.bool b := ru
    exact PySem.P.repr_of_bool ⟨.str _, H, I.tok _, ⟨_, rfl⟩, q⟩
  | int i =>
    obtain ⟨t, rfl⟩ := ru
    exact PySem.P.repr_of_int (of_decide_eq_true hs) ⟨.str _, H, I.tok _, ⟨_, rfl⟩, q⟩
  | str x =>
    obtain ⟨t, rfl⟩ := ru
    exact PySem.P.repr_of_str ⟨.str _, H, I.tok _, ⟨_, rfl⟩, q⟩ hz
  | lst _ _ => exact deep _ rfl
  | tup _ _ => exact deep _ rfl
  | dM _ _ _ => exact deep _ rfl
/-- what stands at v is small data, shown in B signs, n levels deep -/
def Sml (w : World) (H : Hp) (n B : Nat) (v : V) : Prop := ∃ d, ShU w H v d ∧ d.showable = true ∧ d.depth ≤ n ∧ d.shown.length ≤ B
theorem Sml.same {w : World} {H H' : Hp} {n B : Nat} {v : V} (s : L2.Same H H') (h : Sml w H n B v) : Sml w H' n B v := let ⟨d, a, b⟩ := h; ⟨d, a.same s, b⟩
theorem Sml.mono {w : World} {H : Hp} {n B m C : Nat} {v : V} (h : Sml w H n B v) (h1 : n ≤ m) (h2 : B ≤ C) : Sml w H m C v := let ⟨d, a, b, c, e⟩ := h; ⟨d, a, b, Nat.le_trans c h1, Nat.le_trans e h2⟩
theorem smlA {w : World} {H : Hp} {n B : Nat} : ∀ {xs : List V}, (∀ y ∈ xs, Sml w H n B y) → ∃ ds, ShUA w H xs ds ∧ PyData.showableAll ds = true ∧ PyData.depthAll ds ≤ n ∧ ((PyData.shownAll ds).map (·.length)).sum ≤ xs.length * B ∧ (PyData.shownAll ds).length = xs.length
  | [], _ => ⟨[], .nil, rfl, Nat.zero_le _, Nat.zero_le _, rfl⟩
  | y :: r, h => by
    obtain ⟨d, h1, h2, h3, h4⟩ := h y List.mem_cons_self
    obtain ⟨ds, g1, g2, g3, g4, g5⟩ := smlA fun z hz => h z (List.mem_cons_of_mem _ hz)
    refine ⟨d :: ds, .cons h1 g1, ?_, ?_, ?_, ?_⟩
    · show (d.showable && PyData.showableAll ds) = true
      rw [h2, g2]; rfl
    · show max d.depth (PyData.depthAll ds) ≤ n
      omega
    · show ((d.shown :: PyData.shownAll ds).map (·.length)).sum ≤ (r.length + 1) * B
      rw [List.map_cons, List.sum_cons, Nat.succ_mul]
      omega
    · show (d.shown :: PyData.shownAll ds).length = _
      rw [List.length_cons, List.length_cons, g5]
theorem sml_row {w : World} {H : Hp} {n B : Nat} {a : Addr} {xs : List V} (ha : Rd H a (.lst xs) ∨ H a = some (.tup xs)) (h : ∀ y ∈ xs, Sml w H n B y) : Sml w H (n + 1) (xs.length * (B + 2) + 3) (.ref a) := by
  obtain ⟨ds, g1, g2, g3, g4, g5⟩ := smlA h
  have key : ((PyData.shownAll ds).map (·.length)).sum + 2 * (PyData.shownAll ds).length + 3 ≤ xs.length * (B + 2) + 3 := by
    rw [g5, Nat.mul_add]
    omega
  rcases ha with ha | ha
  · exact ⟨_, .lst ha g1, g2, by show PyData.depthAll ds + 1 ≤ n + 1; omega, Nat.le_trans (listText_len_le _) key⟩
  · exact ⟨_, .tup ha g1, g2, by show PyData.depthAll ds + 1 ≤ n + 1; omega, Nat.le_trans (tupleText_len_le _) key⟩
theorem smlKv {w : World} {H : Hp} {n B : Nat} : ∀ {kvs : MV}, (∀ p ∈ kvs, Sml w H n B p.2.1 ∧ Sml w H n B p.2.2) → ∃ ks ds, ShUA w H (kvs.map (·.2.1)) ks ∧ ShUA w H (kvs.map (·.2.2)) ds ∧ PyData.showableKv (ks.zip ds) = true ∧ PyData.depthKv (ks.zip ds) ≤ n ∧
    ((PyData.shownKv (ks.zip ds)).map (·.length)).sum ≤ kvs.length * (2 * B + 2) ∧ (PyData.shownKv (ks.zip ds)).length = kvs.length
  | [], _ => ⟨[], [], .nil, .nil, rfl, Nat.zero_le _, Nat.zero_le _, rfl⟩
  | p :: r, h => by
    obtain ⟨⟨d, h1, h2, h3, h4⟩, ⟨e, k1, k2, k3, k4⟩⟩ := h p List.mem_cons_self
    obtain ⟨ks, ds, g1, g2, g3, g4, g5, g6⟩ := smlKv fun z hz => h z (List.mem_cons_of_mem _ hz)
    refine ⟨d :: ks, e :: ds, .cons h1 g1, .cons k1 g2, ?_, ?_, ?_, ?_⟩
    · show (d.showable && e.showable && PyData.showableKv (ks.zip ds)) = true
      rw [h2, k2, g3]; rfl
    · show PyData.depthKv ((d, e) :: ks.zip ds) ≤ n
      simp only [PyData.depthKv]
      omega
    · show ((((d.shown ++ ": " ++ e.shown) :: PyData.shownKv (ks.zip ds)).map (·.length)).sum ≤ (r.length + 1) * (2 * B + 2))
      rw [List.map_cons, List.sum_cons, Nat.succ_mul, strLen_append, strLen_append]
      have : (": " : Str).length = 2 := rfl
      omega
    · show (_ :: PyData.shownKv (ks.zip ds)).length = _
      rw [List.length_cons, List.length_cons, g6]
theorem sml_dict {w : World} {H : Hp} {n B : Nat} {a : Addr} {kvs : MV} (ha : MRd w H a kvs) (h : ∀ p ∈ kvs, Sml w H n B p.2.1 ∧ Sml w H n B p.2.2) : Sml w H (n + 1) (kvs.length * (2 * B + 4) + 3) (.ref a) := by
  obtain ⟨ks, ds, g1, g2, g3, g4, g5, g6⟩ := smlKv h
  refine ⟨_, .dM ha g1 g2, g3, by show PyData.depthKv (ks.zip ds) + 1 ≤ n + 1; omega, Nat.le_trans (dictText_len_le _) ?_⟩
  rw [g6, show kvs.length * (2 * B + 4) = kvs.length * (2 * B + 2) + 2 * kvs.length by rw [show 2 * B + 4 = (2 * B + 2) + 2 by omega, Nat.mul_add]; omega]
  omega
theorem x_reprU {w : World} {H : Hp} {Q : VK} {n B : Nat} {v : V} (h : Sml w H n B v) (hn : n ≤ 64) (hB : B ≤ 100000) (q : ∀ z, (∀ H', L2.Same H H' → ∀ Q' : VK, Q' (.str z) H' → rReprU w [v] H' Q') → Q (.str z) H) : rReprU w [v] H Q := by
  obtain ⟨d, a, b, c, e⟩ := h
  have hz : d.shown.length ≤ sizeLine := by rw [sizeLine_eq]; omega
  exact ⟨v, d, rfl, a, b, Nat.le_trans c hn, hz, q _ fun H' s Q' q' => ⟨v, d, rfl, a.same s, b, Nat.le_trans c hn, hz, q'⟩⟩
/-! ### dicts of many kinds of keys, asked -/
def rMGetA (K : PySem.W.Frag) (w : World) (x y : V) (H : Hp) (Q : VK) : Prop := ∃ a v, x = .ref a ∧ MGet K w H a y (some v) ∧ Q v H
def rMinA (K : PySem.W.Frag) (w : World) (y x : V) (H : Hp) (Q : VK) : Prop := ∃ a o, x = .ref a ∧ MGet K w H a y o ∧ Q (.bl o.isSome) H
def rMninA (K : PySem.W.Frag) (w : World) (y x : V) (H : Hp) (Q : VK) : Prop := ∃ a o, x = .ref a ∧ MGet K w H a y o ∧ Q (.bl (!o.isSome)) H
def rMputA (K : PySem.W.Frag) (w : World) (x y v : V) (H : Hp) (N : Hp → Prop) : Prop := ∃ a kvs k, x = .ref a ∧ MWr w H a kvs ∧ KeysOk K H kvs ∧ KeyV K H k y ∧ k.depth ≤ 8 ∧ kvs.length < sizeLine ∧ N (upd H a (dM w a (putM kvs k y v)))
/-- a dict of many kinds of keys, with what may be asked of it -/
structure MDict (K : PySem.W.Frag) (w : World) (H : Hp) (a : Addr) (kvs : MV) : Prop where
  rd : MRd w H a kvs
  ks : KeysOk K H kvs
theorem KeysOk.same {K : PySem.W.Frag} {H H' : Hp} {kvs : MV} (s : L2.Same H H') (h : KeysOk K H kvs) : KeysOk K H' kvs := h.via fun _ _ => same_t s
theorem KeyV.same {K : PySem.W.Frag} {H H' : Hp} {k : NestedKey} {v : V} (s : L2.Same H H') (h : KeyV K H k v) : KeyV K H' k v := h.via fun _ _ => same_t s
theorem MDict.same {K : PySem.W.Frag} {w : World} {H H' : Hp} {a : Addr} {kvs : MV} (s : L2.Same H H') (h : MDict K w H a kvs) : MDict K w H' a kvs := ⟨h.rd.same s, KeysOk.same s h.ks⟩
theorem MDict.dK {K : PySem.W.Frag} {w : World} {H : Hp} {a : Addr} {ks : List (Key × V)} (h : Rd H a (.dK ks)) : MDict K w H a (ks.map toM) := ⟨.inr ⟨ks, h, rfl⟩, keysOk_dK _ _ _⟩
section
variable {K : PySem.W.Frag} {w : World} {σ : L2.St} {H : Hp} {Q : VK} {td ty tv : TE} {a : Addr} {kvs : MV} {z : Str} {v : V} {n : L2.St → Hp → Prop} {r : VK} {b c : L2.St → Hp → Prop}
theorem x_mget (h : td σ H fun x H1 => ty σ H1 fun y H2 => rMGetA K w x y H2 Q) : tMGet K w td ty σ H Q := h
theorem x_min (h : ty σ H fun y H1 => td σ H1 fun x H2 => rMinA K w y x H2 Q) : tMIn K w ty td σ H Q := h
theorem x_mnin (h : ty σ H fun y H1 => td σ H1 fun x H2 => rMninA K w y x H2 Q) : tMNotIn K w ty td σ H Q := h
theorem x_mput (h : tv σ H fun v H1 => td σ H1 fun x H2 => ty σ H2 fun y H3 => rMputA K w x y v H3 fun H4 => n σ H4) : sMPut K w td ty tv ⟨n, r, b, c⟩ σ H := h
theorem x_mgetS (m : MDict K w H a kvs) (e : valM kvs (.text z) = some v) (q : Q v H) : rMGetA K w (.ref a) (.str z) H Q := ⟨a, v, rfl, ⟨kvs, .text z, m.rd, m.ks, .text z, Nat.zero_le _, e.symm⟩, q⟩
theorem x_minS (m : MDict K w H a kvs) (q : Q (.bl (valM kvs (.text z)).isSome) H) : rMinA K w (.str z) (.ref a) H Q := ⟨a, _, rfl, ⟨kvs, .text z, m.rd, m.ks, .text z, Nat.zero_le _, rfl⟩, q⟩
theorem x_mninS (m : MDict K w H a kvs) (q : Q (.bl (!(valM kvs (.text z)).isSome)) H) : rMninA K w (.str z) (.ref a) H Q := ⟨a, _, rfl, ⟨kvs, .text z, m.rd, m.ks, .text z, Nat.zero_le _, rfl⟩, q⟩
end
theorem val_mem {kvs : MV} {k : NestedKey} {v : V} (h : valM kvs k = some v) : ∃ p ∈ kvs, p.1 = k ∧ p.2.2 = v := by
  induction kvs with
  | nil => cases h
  | cons p r ih =>
    rw [valM] at h
    by_cases e : p.1 = k
    · rw [if_pos e] at h
      exact ⟨p, List.mem_cons_self, e, Option.some.inj h⟩
    · rw [if_neg e] at h
      obtain ⟨q, hq, z⟩ := ih h
      exact ⟨q, List.mem_cons_of_mem _ hq, z⟩
/-- a dict with text keys, told as one of many kinds -/
def mS (m : List (Str × V)) : MV := (strK (fun v => v) m).map toM
theorem mS_cons (z : Str) (v : V) (r : List (Str × V)) : mS ((z, v) :: r) = (.text z, .str z, v) :: mS r := rfl
theorem mS_val (m : List (Str × V)) (z : Str) : valM (mS m) (.text z) = m.lookup z := by
  induction m with
  | nil => rfl
  | cons p r ih =>
    obtain ⟨y, v⟩ := p
    rw [mS_cons, valM, List.lookup_cons]
    by_cases e : y = z
    · subst e
      rw [if_pos rfl]
      simp
    · rw [if_neg (fun q => e (by injection q)), ih, beq_eq_false_iff_ne.mpr (Ne.symm e)]
theorem mS_len (m : List (Str × V)) : (mS m).length = m.length := by unfold mS; rw [List.length_map, List.length_map]
theorem mS_mem {m : List (Str × V)} {p : NestedKey × V × V} (h : p ∈ mS m) : ∃ q ∈ m, p = (.text q.1, .str q.1, q.2) := by
  unfold mS at h
  obtain ⟨x, hx, rfl⟩ := List.mem_map.mp h
  obtain ⟨q, hq, rfl⟩ := List.mem_map.mp hx
  exact ⟨q, hq, rfl⟩
/-! ### odd things, small; tables of many kinds of keys -/
abbrev vK (m : List (Str × V)) : List (Key × V) := strK (fun v => v) m
theorem fine_same {K : PySem.W.Frag} {H H' : Hp} {v : V} {k : Kn} (s : L2.Same H H') (h : Fine K H v k) : Fine K H' v k := ⟨h.1.same s, h.2⟩
theorem nam_sml {w : World} {H : Hp} {z : Str} (g : NameS z) : Sml w H 0 82 (.str z) := by
  refine ⟨_, .str z, rfl, Nat.le_refl _, ?_⟩
  have hz : ∀ c ∈ z.cps.toList, c < 123 := by
    obtain ⟨d, r, e, h1, _, h3⟩ := g
    rw [e]
    intro c hc
    rcases List.mem_cons.mp hc with rfl | hc
    · obtain ⟨_, h⟩ := h1
      omega
    · rcases h3 c hc with ⟨_, h⟩ | ⟨_, h⟩ <;> omega
  have := PySem.StrLaws.reprText_len z fun c hc => Nat.lt_of_lt_of_le (hz c hc) (by decide)
  have h8 := g.len
  exact Nat.le_trans this (by omega)
theorem nam_fine {K : PySem.W.Frag} {H : Hp} {z : Str} (g : NameS z) : Fine K H (.str z) .str := ⟨.str z, fun y e => by cases e; have := g.len; omega⟩
theorem pick1 (L : List V) {j : Int} (h0 : 0 ≤ j) (h1 : j < L.length) : ∃ g, L[j.toNat]? = some g ∧ g ∈ L := by
  have h : j.toNat < L.length := by omega
  exact ⟨L[j.toNat], List.getElem?_eq_getElem h, List.getElem_mem h⟩
/-- an odd thing, small -/
structure OdX (K : PySem.W.Frag) (w : World) (H : Hp) (v : V) : Prop where
  fi : ∃ k, Fine K H v k
  sm : Sml w H 2 100 v
theorem OdX.same {K : PySem.W.Frag} {w : World} {H H' : Hp} {v : V} (s : L2.Same H H') (h : OdX K w H v) : OdX K w H' v := ⟨h.fi.elim fun k f => ⟨k, fine_same s f⟩, h.sm.same s⟩
theorem put_mem2 {β : Type} : ∀ {xs : List (NestedKey × β × β)} {k : NestedKey} {y v : β} {x : NestedKey × β × β}, x ∈ putM xs k y v → (∃ z ∈ xs, z.1 = x.1 ∧ z.2.1 = x.2.1 ∧ (x.2.2 = z.2.2 ∨ x.2.2 = v)) ∨ x = (k, y, v)
  | [], _, _, _, x, h => .inr (by simpa [putM] using h)
  | p :: r, k, y, v, x, h => by
    rw [putM] at h
    by_cases e : p.1 = k
    · rw [if_pos e] at h
      rcases List.mem_cons.mp h with rfl | h
      · exact .inl ⟨p, List.mem_cons_self, rfl, rfl, .inr rfl⟩
      · exact .inl ⟨x, List.mem_cons_of_mem _ h, rfl, rfl, .inl rfl⟩
    · rw [if_neg e] at h
      rcases List.mem_cons.mp h with rfl | h
      · exact .inl ⟨x, List.mem_cons_self, rfl, rfl, .inl rfl⟩
      · rcases put_mem2 h with ⟨z, hz, q⟩ | q
        · exact .inl ⟨z, List.mem_cons_of_mem _ hz, q⟩
        · exact .inr q
/-- small keys and values -/
structure Mx (K : PySem.W.Frag) (w : World) (H : Hp) (kvs : MV) : Prop where
  ks : KeysOk K H kvs
  ks_ : ∀ p ∈ kvs, Sml w H 2 100 p.2.1
  vs : ∀ p ∈ kvs, OdX K w H p.2.2
theorem Mx.same {K : PySem.W.Frag} {w : World} {H H' : Hp} {kvs : MV} (s : L2.Same H H') (h : Mx K w H kvs) : Mx K w H' kvs := ⟨KeysOk.same s h.ks, fun p m => (h.ks_ p m).same s, fun p m => (h.vs p m).same s⟩
theorem Mx.put {K : PySem.W.Frag} {w : World} {H : Hp} {kvs : MV} {k : NestedKey} {y v : V} (h : Mx K w H kvs) (hk : KeyV K H k y) (hd : k.depth ≤ 8) (sy : Sml w H 2 100 y) (hv : OdX K w H v) : Mx K w H (putM kvs k y v) := by
  refine ⟨fun p m => ?_, fun p m => ?_, fun p m => ?_⟩
  · rcases put_mem2 m with ⟨z, hz, e1, e2, _⟩ | rfl
    · rw [← e1, ← e2]; exact h.ks z hz
    · exact ⟨hk, hd⟩
  · rcases put_mem2 m with ⟨z, hz, e1, e2, _⟩ | rfl
    · rw [← e2]; exact h.ks_ z hz
    · exact sy
  · rcases put_mem2 m with ⟨z, hz, _, _, e | e⟩ | rfl
    · rw [e]; exact h.vs z hz
    · rw [e]; exact hv
    · exact hv
theorem Mx.dK {K : PySem.W.Frag} {w : World} {H : Hp} {m : List (Str × V)} (h1 : ∀ q ∈ m, NameS q.1) (h2 : ∀ q ∈ m, OdX K w H q.2) : Mx K w H (mS m) := by
  refine ⟨keysOk_dK _ _ _, fun p hp => ?_, fun p hp => ?_⟩
  · obtain ⟨q, hq, rfl⟩ := mS_mem hp
    exact (nam_sml (h1 q hq)).mono (by decide) (by decide)
  · obtain ⟨q, hq, rfl⟩ := mS_mem hp
    exact h2 q hq
theorem nam_od {K : PySem.W.Frag} {w : World} {H : Hp} {z : Str} (g : NameS z) : OdX K w H (.str z) := ⟨⟨_, nam_fine g⟩, (nam_sml g).mono (by decide) (by decide)⟩
theorem sgn_lt {z : Str} (g : NameS z) : ∀ c ∈ z.cps.toList, c < 123 := by
  obtain ⟨d, r, e, h1, _, h3⟩ := g
  rw [e]
  intro c hc
  rcases List.mem_cons.mp hc with rfl | hc
  · obtain ⟨_, h⟩ := h1
    omega
  · rcases h3 c hc with ⟨_, h⟩ | ⟨_, h⟩ <;> omega
theorem paired_all {α β : Type} {F : α → β → Prop} {xs : List α} {ys : List β} (r : Paired F xs ys) : ∀ x ∈ xs, ∃ y ∈ ys, F x y := by
  induction r with
  | nil => intro x m; cases m
  | cons h t ih =>
    intro x m
    rcases List.mem_cons.mp m with rfl | m
    · exact ⟨_, List.mem_cons_self, h⟩
    · obtain ⟨y, hy, q⟩ := ih x m
      exact ⟨y, List.mem_cons_of_mem _ hy, q⟩
theorem sml_c {w : World} {H : Hp} {v : V} {d : PyData} (h : ShU w H v d) (h1 : d.showable = true) (h2 : d.depth ≤ 2) (h3 : d.shown.length ≤ 100) : Sml w H 2 100 v := ⟨d, h, h1, h2, h3⟩
theorem same_unlockF {H H' : Hp} {D : Addr} {o : Obj} {u : HO} (h : H D = some u) (s : L2.Same (upd H D (.frz o u)) H') : L2.Same H (upd H' D u) := fun b x e => by
  by_cases hb : b = D
  · subst hb
    rw [h] at e
    rw [upd_same]
    exact e
  · rw [upd_ne hb]
    exact s _ _ (by rw [upd_ne hb]; exact e)
theorem rd_held {H : Hp} {D b : Addr} {o : Obj} {ks : List (Key × V)} {u : HO} (h : H D = some (.dK ks)) (r : Rd H b u) : Rd (upd H D (.frz o (.dK ks))) b u := by
  by_cases hb : b = D
  · subst hb
    rcases r with r | ⟨o', r⟩
    · rw [h] at r
      cases r
      exact .inr ⟨o, upd_same⟩
    · rw [h] at r
      cases r
  · rcases r with r | ⟨o', r⟩
    · exact .inl (by rw [upd_ne hb]; exact r)
    · exact .inr ⟨o', by rw [upd_ne hb]; exact r⟩
theorem sqT_held {K : PySem.W.Frag} {H : Hp} {D b : Addr} {o : Obj} {ks : List (Key × V)} {xs : List V} (h : H D = some (.dK ks)) (r : SqT K H b xs) : SqT K (upd H D (.frz o (.dK ks))) b xs := r.imp (rd_held h) fun z => z
/-- H without some places -/
def woL (H : Hp) (hs : List Addr) : Hp := fun b => if b ∈ hs then none else H b
theorem woL_at {H : Hp} {hs : List Addr} {b : Addr} (n : b ∉ hs) : woL H hs b = H b := by unfold woL; rw [if_neg n]
theorem woL_some {H : Hp} {hs : List Addr} {b : Addr} {o : HO} (e : woL H hs b = some o) : b ∉ hs ∧ H b = some o := by
  unfold woL at e
  by_cases n : b ∈ hs
  · rw [if_pos n] at e; cases e
  · rw [if_neg n] at e; exact ⟨n, e⟩
theorem woL_same {H : Hp} {hs : List Addr} : L2.Same (woL H hs) H := fun b o e => (woL_some e).2
theorem woL_to {H H' : Hp} {hs hs' : List Addr} (h : ∀ b o, b ∉ hs → H b = some o → b ∉ hs' ∧ H' b = some o) : L2.Same (woL H hs) (woL H' hs') := fun b o e => by
  obtain ⟨n, e1⟩ := woL_some e
  obtain ⟨n2, e2⟩ := h b o n e1
  rw [woL_at n2]
  exact e2
theorem woL_in {H H' : Hp} {hs : List Addr} (h : ∀ b o, b ∉ hs → H b = some o → H' b = some o) : L2.Same (woL H hs) H' := fun b o e => by
  obtain ⟨n, e1⟩ := woL_some e
  exact h b o n e1
/-! ### what a held dict leaves as it is -/
theorem rd_heldU {H : Hp} {d b : Addr} {o : Obj} {u x : HO} (h : H d = some u) (hm : Mut (some u)) (r : Rd H b x) : Rd (upd H d (.frz o u)) b x := by
  by_cases hb : b = d
  · subst hb
    rcases r with r | ⟨o', r⟩
    · rw [h] at r
      cases r
      exact .inr ⟨o, upd_same⟩
    · rw [h] at r
      cases r
      exact hm.elim
  · rcases r with r | ⟨o', r⟩
    · exact .inl (by rw [upd_ne hb]; exact r)
    · exact .inr ⟨o', by rw [upd_ne hb]; exact r⟩
section
variable {K : PySem.W.Frag} {w : World} {H H' : Hp} {d : Addr} {o : Obj} {u : HO}
theorem sqT_heldU {b : Addr} {xs : List V} (h : H d = some u) (hm : Mut (some u)) (r : SqT K H b xs) : SqT K (upd H d (.frz o u)) b xs := r.imp (rd_heldU h hm) fun z => z
theorem kd_heldU {x : V} {k : Kn} (h : H d = some u) (hm : Mut (some u)) (r : Kd K H x k) : Kd K (upd H d (.frz o u)) x k := by
  cases r with
  | non => exact .non
  | bl b => exact .bl b
  | int i => exact .int i
  | str z => exact .str z
  | lst r => exact .lst (r.imp (rd_heldU h hm) fun z => z)
  | tup r => exact .tup (sqT_heldU h hm r)
  | dict r => exact .dict (rd_heldU h hm r)
theorem fine_heldU {x : V} {k : Kn} (h : H d = some u) (hm : Mut (some u)) (r : Fine K H x k) : Fine K (upd H d (.frz o u)) x k := ⟨kd_heldU h hm r.1, r.2⟩
theorem unlock_s {u : HO} (h : H d = some u) (s : L2.Same (upd H d (.frz o u)) H') : L2.Same H (upd H' d u) := same_unlockF h s
end
theorem not_dict {k : Kn} (h : k ≠ .dict) : isB k .dict = false := by cases k <;> first | rfl | exact absurd rfl h
theorem FzM.same {w : World} {H H' : Hp} {d : Addr} {o : Obj} {kvs : MV} (s : L2.Same H H') (h : FzM w H d o kvs) : FzM w H' d o kvs := h.imp (s _ _) fun ⟨ks, e, q⟩ => ⟨ks, s _ _ e, q⟩
/-! ### k71: a drawn book -/
theorem x_ckw {r : List V → List V → Hp → VK → Prop} {t tk : TA} {σ : L2.St} {H : Hp} {Q : VK} (h : t σ H fun vs H1 => tk σ H1 fun zs H2 => r vs zs H2 Q) : tCKw r t tk σ H Q := h
/-- a row of a book: different moves of the stand, ascending, not none -/
structure RowOk (x : Sd) (r : List Str) : Prop where
  asc : r.Pairwise LeS
  nd : r.Nodup
  ne : r ≠ []
  sub : ∀ m ∈ r, m ∈ stepsL x
def RwAt (H : Hp) (a : Addr) (r : List Str) : Prop := H a = some (.tup (strsV r))
theorem monoR : Mono RwAt := fun _ _ _ _ s h => s _ _ h
def BookOk (l : List (Str × Sd)) (bk : List (Str × List Str)) : Prop := ∀ q ∈ bk, ∃ k l2, l.lookup q.1 = some (.hand k l2) ∧ RowOk (.hand k l2) q.2
def spBookL : Sp := fun vs H Q _ => ∃ (p D : Addr) (h : Int) (l : List (Str × Sd)), vs = [.ref p, .ref D] ∧ PoolAt H p ∧ DictOf SdAt (wo H p) D l ∧ D ≠ p ∧ GoodT h l ∧
  ∀ H' B bk, But p H H' → PoolAt H' p → H B = none → B ≠ p → DictOf RwAt H' B bk → (bk.map (·.1)).Nodup → BookOk l bk → Q (.ref B) H'
section
variable {P : Program} {w : World} {K : PySem.W.Frag} {mg : Str → Option Value} {base : Heap}
theorem ok_l_book {f : Addr} {fd : FuncData} (F : Fun K "_law_book" "_law_book" s_l_book f fd) (Z_range : mg "range" = none) (Z_len : mg "len" = none) (Z_sorted : mg "sorted" = none) (Z_tuple : mg "tuple" = none)
    (C_draw : Cal P w K mg base 1 "_law_draw" ["_law_drawer", "_law_many"] spDraw) (C_l_steps : Cal P w K mg base 1 "_law_steps" ["_law_stands_here", "_law_stand_here"] spStepsC) : FnOk P w K mg base CX0 2 f fd ["_law_drawer", "_law_stands_here"] spBookL := by
  refine F.ok sc_l_book (fun vs H Q E h => ?_) (fun cdv A outer s H vs Q E hr h => ?_)
  · obtain ⟨_, _, _, _, rfl, _⟩ := h
    rfl
  · obtain ⟨p, D, h, l, rfl, hp, hT, nDp, g, k⟩ := h
    have hu := hu_of hr
    obtain ⟨m0, hD0, hk0, _⟩ := id hT.ex
    refine ⟨_, (pss_cons (ps_set (i := 2) sc_l_book.nd rfl (Or.inl rfl) pe_dnewK)
      (pss_cons (ps_for PassesOwn.never rfl (pi_list (pe_callBK (call_sortRev rfl) (by rfl) Z_sorted (by decide +kernel) (pa_cons (pv 1) pa_nil) (pk_cons pe_bl pk_nil))) (pg_name (i := 3) sc_l_book.nd rfl (Or.inl rfl))
      (pss_one (ps_if (PW.pt (pw_and (pt_cmpR op_eq (pe_ix ix_tup (pe_dget hu (pv 1) (pv 3) (fun _ _ => rfl)) pe_int (fun _ _ => rfl)) pe_str (nomark _)) (pw_and1 (pt_cmpR op_eq (pe_cal C_draw (hr.mono (by decide)) (by rfl) (pa_cons (pv 0) (pa_cons pe_int pa_nil))) pe_int (nomark _)))))
      (pss_cons (ps_set (i := 4) sc_l_book.nd rfl (Or.inr rfl) (pe_cal C_l_steps (hr.mono (by decide)) (by rfl) (pa_cons (pv 1) (pa_cons (pv 3) pa_nil))))
      (pss_cons (ps_set (i := 5) sc_l_book.nd rfl (Or.inr rfl) (pe_op op_add pe_int (pe_cal C_draw (hr.mono (by decide)) (by rfl) (pa_cons (pv 0) (pa_cons pe_int pa_nil)))))
      (pss_cons (ps_setLc (i := 6) (own := [("_law_at", 7)]) (g := gName 7)  (by rfl) sc_l_book.nd rfl rfl (sw_true rfl rfl rfl (by decide +kernel)) (pi_range1 rfl Z_range (pa_cons (pe_callB call_lenA (by rfl) Z_len (by decide +kernel) (pa_cons (pv 4) pa_nil)) pa_nil)) (blkOk_by (own := [("_law_at", 7)]) (N := N_l_book) (sc := defScope s_l_book) (by decide +kernel)) (fun _ _ _ _ _ => (pg_name (i := 7) sc_l_book.nd rfl (Or.inl rfl))) (fun _ _ _ _ _ => by exact (pts_one (pt_cmpR op_eq (pe_op op_mod (pe_op op_fdivA (pv 5) (pe_ix (ix_listK (K := K)) (pe_lst (pa_cons pe_int (pa_cons pe_int (pa_cons pe_int (pa_cons pe_int pa_nil))))) (pv 7) (fun _ _ => rfl))) pe_int) pe_int (nomark _)))) (fun _ _ _ _ _ => by exact (pe_ix (ix_listK (K := K)) (pv 4) (pv 7) (fun _ _ => rfl))))
      (pss_cons (ps_if (pt_cmpR op_eq (pe_callB call_lenA (by rfl) Z_len (by decide +kernel) (pa_cons (pv 6) pa_nil)) pe_int (nomark _))
      (pss_one (ps_set (i := 6) sc_l_book.nd rfl (Or.inl rfl) (pe_slice sl_list (pv 4) po_none (po_some pe_int))))
      pss_nil)
      (pss_one (ps_dput hu (pv 2) (pv 3) (pe_callTy call_tupleA (by rfl) Z_tuple (by decide +kernel) (pa_cons (pv 6) pa_nil)) rfl))))))
      pss_nil)))
      (pss_one (ps_ret (pv 2))))), ?_⟩
    walk_at "go"
    intro B hB
    have nBp : B ≠ p := hp.ne hB
    have hD := (wo_some hD0).1
    have nDB : D ≠ B := ne_of_none hD hB
    have tab : ∀ H', But p H H' → DictOf SdAt H' D l := fun H' b => (hT.same (but_wo b)).same wo_same
    have ek : (strK V.ref m0).map (·.1) = (l.map (·.1)).map Sum.inr := by rw [← hk0, List.map_map, List.map_map]; rfl
    have g2 := g.l2
    walk_at "go"
    refine x_ckw ?_
    walk_at "go"
    refine ⟨D, _, l.map (·.1), rfl, rfl, .inl (by rw [upd_ne nDB]; exact hD), ek, by rw [List.length_map]; omega, fun ys c hperm hc => ?_⟩
    have nBc : B ≠ c := ne_of_none upd_same hc
    have ncp : c ≠ p := fun e => by
      obtain ⟨x, y, z, n, e1⟩ := hp.new (o := .dK []) hB
      rw [← e, hc] at e1
      cases e1
    have ynd : ys.Nodup := (hperm.nodup_iff).mpr g.nd
    have yl : ys.length ≤ 100 := by rw [hperm.length_eq, List.length_map]; exact g2
    have b0 : But p H (upd (upd H B (.dK [])) c (.lst (strsV ys))) := (But.of_same (same_new hB)).new hc
    refine lpL (xs := strsV ys) (fun i σ H' => ∃ v3 v4 v5 v6 bk, σ = [some (.ref p), some (.ref D), some (.ref B), v3, v4, v5, v6, none] ∧ But p H H' ∧ PoolAt H' p ∧ H' c = some (.lst (strsV ys)) ∧ DictW RwAt (wo H' p) B bk ∧ (bk.map (·.1)).Nodup ∧ bk.length ≤ i ∧ BookOk l bk) (SqL.of upd_same) ?_ ?_ ?_ ?_
    · exact ⟨_, _, _, _, [], rfl, b0, (hp.new hB).new hc, upd_same, .nil (by rw [wo_ne nBp, upd_ne nBc, upd_same]), List.nodup_nil, Nat.zero_le _, fun q hq => by cases hq⟩
    · exact fun i σ H' _ ⟨_, _, _, _, _, _, _, _, h, _⟩ => SqL.of h
    · rintro i v σ H4 hv ⟨v3, v4, v5, v6, bk, rfl, b4, p4, hc4, hW, bnd, bl, bok⟩
      rw [List.getElem?_map] at hv
      cases hz : ys[i]? with
      | none => rw [hz] at hv; cases hv
      | some z =>
        rw [hz] at hv
        have ex : V.str z = v := Option.some.inj hv
        subst ex
        have hi : i < ys.length := (List.getElem?_eq_some_iff.mp hz).1
        obtain ⟨x, hx⟩ := lookup_isSome (hperm.mem_iff.mp (List.mem_of_getElem? hz))
        obtain ⟨m4, b, hm4, hb4, hxa⟩ := (tab H4 b4).at hx
        walk_at "go"
        refine x_getL (.inl hm4) hb4 ?_
        walk_at "go"
        cases x with
        | fin =>
          have hb1 : H4 b = some (.tup [.str "end"]) := hxa
          refine x_ixt 0 (SqT.of hb1) rfl rfl ?_
          walk_at "go"
          refine x_no (by decide +kernel) ?_
          walk_at "go"
          exact ⟨_, _, _, _, bk, rfl, b4, p4, hc4, hW, bnd, by omega, bok⟩
        | chance l2 =>
          obtain ⟨d2, hb1, _⟩ := hxa
          refine x_ixt 0 (SqT.of hb1) rfl rfl ?_
          walk_at "go"
          refine x_no (by decide +kernel) ?_
          walk_at "go"
          exact ⟨_, _, _, _, bk, rfl, b4, p4, hc4, hW, bnd, by omega, bok⟩
        | hand k2 l2 =>
          obtain ⟨d2, hb1, _⟩ := id hxa
          have gx := g.sd z _ hx
          refine x_ixt 0 (SqT.of hb1) rfl rfl ?_
          walk_at "go"
          refine x_yes rfl ?_
          walk_at "go"
          refine ⟨p, 2, rfl, p4, by decide, by decide, fun H5 y b5 p5 y0 y1 => ?_⟩
          have b05 := b4.trans b5
          have hW5 := hW.same monoR (but_wo b5)
          have hc5 := b5 c _ hc4 ncp
          walk_at "go"
          refine x_dec (fun hy => ?_) (fun hy => ?_)
          · walk_at "go"
            refine ⟨D, z, l, _, h, _, rfl, TabRd.of (tab H5 b05), hx, gx, fun H6 q ss s6 hq hq6 hpm hsort => ?_⟩
            have nqp : q ≠ p := p5.ne hq
            have p6 := p5.same s6
            have b06 := b05.trans (But.of_same s6)
            have hW6 := hW5.same monoR (but_wo (But.of_same s6))
            have sl : ss.length = l2.length := by
              rw [hpm.length_eq]
              show (l2.map (·.1)).length = _
              rw [List.length_map]
            obtain ⟨_, _, gnd, gl1, gl4, _⟩ := id gx
            have ssnd : ss.Nodup := (hpm.nodup_iff).mpr gnd
            walk_at "go"
            refine ⟨p, 15, rfl, p6, by decide, by decide, fun H7 u b7 p7 u0 u1 => ?_⟩
            have b07 := b06.trans b7
            have hq7 := b7 q _ hq6 nqp
            have hc7 := b7 c _ (s6 _ _ hc5) ncp
            have hW7 := hW6.same monoR (but_wo b7)
            walk_at "go"
            refine runR ⟨by rw [List.length_map]; omega, by rw [List.length_map]; omega⟩ ?_
            intro E1 hE1
            have nEp : E1 ≠ p := p7.ne hE1
            refine lcR (fun j H' => L2.Same H7 H' ∧ ∃ r : List Str, H' E1 = some (.lst (strsV r)) ∧ r.Sublist (ss.take j)) ⟨same_new hE1, [], upd_same, by simp⟩ ?_ ?_
            · rintro j H8 hj ⟨s8, r, hE8, hr8⟩
              rw [Int.toNat_natCast, List.length_map] at hj
              have hj4 : j < 4 := by omega
              walk_at "go"
              refine ⟨rfl, ?_⟩
              walk_at "go"
              refine ⟨sz_le (by simp), fun t ht => ?_⟩
              have nEt : E1 ≠ t := ne_of_none hE8 ht
              obtain ⟨v, hv, hvm⟩ := pickI [1, 2, 4, 8] (j := (j : Int)) (by omega) (by simp; omega)
              have hv8 : 1 ≤ v ∧ v ≤ 8 := by simp at hvm; omega
              have s9 : L2.Same H7 (upd H8 t (.lst [.int 1, .int 2, .int 4, .int 8])) := same_upd s8 (s8.free ht)
              have hE9 : (upd H8 t (.lst [.int 1, .int 2, .int 4, .int 8])) E1 = some (.lst (strsV r)) := by rw [upd_ne nEt]; exact hE8
              walk_at "go"
              refine x_ixl (j : Int).toNat (SqL.of upd_same) (by omega) hv ?_
              generalize upd H8 t (.lst [.int 1, .int 2, .int 4, .int 8]) = H9 at s9 hE9 ⊢
              obtain ⟨m, hm⟩ : ∃ m, ss[j]? = some m := ⟨_, List.getElem?_eq_getElem hj⟩
              have hmv : (strsV ss)[j]? = some (.str m) := by rw [List.getElem?_map, hm]; rfl
              have rl : r.length ≤ j := by
                have := hr8.length_le
                rw [List.length_take] at this
                omega
              walk_at "go"
              refine x_dec (fun hb => ?_) (fun hb => ?_)
              · walk_at "go"
                refine x_ixl j (SqL.of (s9 _ _ hq7)) rfl hmv ?_
                refine ⟨_, hE9, sz_lt (by rw [List.length_map]; omega), same_upd s9 hE1, r ++ [m], by rw [upd_same, strsV_snoc], ?_⟩
                rw [take_succ_get hm]
                exact hr8.append (List.Sublist.refl _)
              · refine ⟨s9, r, hE9, ?_⟩
                rw [take_succ_get hm]
                exact hr8.trans (List.sublist_append_left _ _)
            · rintro H8 ⟨s8, r, hE8, hr8⟩
              rw [Int.toNat_natCast, List.length_map, List.take_length] at hr8
              have b08 := b07.trans (But.of_same s8)
              have p8 := p7.same s8
              have rok : ∀ r2 : List Str, r2.Sublist ss → r2 ≠ [] → RowOk (.hand k2 l2) r2 := fun r2 h2 hne => ⟨(sorted_pw hsort).sublist h2, ssnd.sublist h2, hne, fun m hm => hpm.mem_iff.mp (h2.subset hm)⟩
              refine x_seq ?_
              refine if_joinH (α := Addr × List Str) (fun a H' => L2.Same H8 H' ∧ H' a.1 = some (.lst (strsV a.2)) ∧ RowOk (.hand k2 l2) a.2 ∧ a.2.length ≤ 4) (fun a => [some (.ref p), some (.ref D), some (.ref B), some (.str z), some (.ref q), some (.int (1 + u)), some (.ref a.1), none]) (fun n' hn' => ?_) ?_
              · walk_at "go"
                refine x_dec (fun h0 => ?_) (fun h0 => ?_)
                · walk_at "go"
                  refine x_slL (SqL.of (s8 _ _ hq7)) fun sA hsA => ?_
                  rw [cut_to (by omega) (by rw [List.length_map]; omega), ← List.map_take]
                  refine hn' (sA, ss.take 1) _ ⟨same_new hsA, upd_same, rok _ (List.take_sublist _ _) (fun e => ?_), by show (ss.take 1).length ≤ 4; rw [List.length_take]; omega⟩
                  have e2 : (ss.take 1).length = 0 := by
                    rw [show ss.take 1 = [] from e]
                    rfl
                  rw [List.length_take] at e2
                  omega
                · walk_at "go"
                  refine hn' (E1, r) _ ⟨L2.Same.refl _, hE8, rok r hr8 (fun e => h0 (by rw [e]; rfl)), ?_⟩
                  have := hr8.length_le
                  show r.length ≤ 4
                  omega
              · rintro ⟨rA, r2⟩ H9 ⟨s9, hr9, ok9, l9⟩
                walk_at "go"
                refine x_tupL (SqL.of hr9) fun t ht => ?_
                have p9 := p8.same s9
                have ntp : t ≠ p := p9.ne ht
                have b10 : But p H7 (upd H9 t (.tup (strsV r2))) := ((But.of_same s8).trans (But.of_same s9)).new ht
                obtain ⟨m, m1, m2, m3⟩ := (hW7.same monoR (but_wo b10)).ex
                have hml : m.length = bk.length := by
                  have := congrArg List.length m2
                  rwa [List.length_map, List.length_map] at this
                have hB10 := (wo_some m1).1
                have ntB : t ≠ B := fun e => by
                  rw [e, upd_same] at hB10
                  cases hB10
                walk_at "go"
                refine x_putL (l := m) (x := t) hB10 (by omega) rfl ?_
                walk_at "go"
                refine ⟨_, _, _, _, putL bk z r2, rfl, fun b o e n => ?_, (p9.new ht).upd nBp.symm, by rw [upd_ne nBc.symm]; exact b10 c _ hc7 ncp, ?_, putL_nd _ bnd, Nat.le_trans (putL_len _ _ _) (Nat.succ_le_succ bl), fun qq hqq => ?_⟩
                · rw [upd_ne (ne_of_none e hB)]
                  exact b10 b o (b07 b o e n) n
                · rw [wo_upd_ne nBp]
                  exact DictW.put m2 m3 (show RwAt _ _ _ from by
                    show wo (wo _ p) B t = _
                    rw [wo_ne ntB, wo_ne ntp]
                    exact upd_same)
                · rcases putL_mem hqq with rfl | ⟨hqq, _⟩
                  · exact ⟨k2, l2, hx, ok9⟩
                  · exact bok qq hqq
          · walk_at "go"
            exact ⟨_, _, _, _, bk, rfl, b05, p5, hc5, hW5, bnd, by omega, bok⟩
    · rintro σ H4 ⟨v3, v4, v5, v6, bk, rfl, b4, p4, hc4, hW, bnd, bl, bok⟩
      walk_at "go"
      exact k H4 B bk b4 p4 hB nBp ((hW.of monoR).imp wo_same fun _ _ h => wo_same _ _ h) bnd bok
end
/-! ### small facts of a work -/
theorem wkn {h : Int} {st m : Str} {t n e : Addr} {r : Bool} (hm : (["ringless", "ends", "names", "table", "start", "hands"] : List Str).contains m = false) : (wkF h st t n e r).lookup m = none := by
  have key : ∀ z ∈ (["ringless", "ends", "names", "table", "start", "hands"] : List Str), m ≠ z := fun z hz e => by
    rw [e, List.contains_iff_mem.mpr hz] at hm
    cases hm
  exact wkF_none (key _ (by simp)) (key _ (by simp)) (key _ (by simp)) (key _ (by simp)) (key _ (by simp)) (key _ (by simp))
theorem steps_le {h : Int} {ns : List Str} {x : Sd} (g : GoodSd h ns x) : (stepsL x).length ≤ 4 := by
  cases x with
  | fin => exact Nat.zero_le _
  | chance l => show (l.map _).length ≤ 4; rw [List.length_map]; exact g.2.2.1
  | hand k l => show (l.map _).length ≤ 4; rw [List.length_map]; exact g.2.2.2.2.1
/-! ### rows of a book, what a book lets -/
abbrev LtS (a b : Str) : Prop := a.cps.toList < b.cps.toList
theorem lt_of_le {a b : Str} (h : LeS a b) (n : a ≠ b) : LtS a b := by
  have h1 : ¬ b.cps.toList < a.cps.toList := by
    have : ltCps b.cps.toList a.cps.toList = false := h
    rw [ltCps_eq] at this
    exact of_decide_eq_false this
  rcases Decidable.em (a.cps.toList < b.cps.toList) with q | q
  · exact q
  · exact absurd (str_ext (List.le_antisymm (List.not_lt.mp h1) (List.not_lt.mp q))) n
theorem pw_lt {r : List Str} (h : r.Pairwise LeS) (nd : r.Nodup) : r.Pairwise LtS := by
  induction r with
  | nil => exact .nil
  | cons a t ih =>
    obtain ⟨h1, h2⟩ := List.pairwise_cons.mp h
    obtain ⟨n1, n2⟩ := List.nodup_cons.mp nd
    exact List.pairwise_cons.mpr ⟨fun b hb => lt_of_le (h1 b hb) fun e => n1 (by rw [e]; exact hb), ih h2 n2⟩
theorem x_ninTs {K : PySem.W.Frag} {H : Hp} {Q : VK} {p : Addr} {ws : List Str} {z : Str} (h : SqT K H p (ws.map V.str)) (q : Q (.bl (!decide (z ∈ ws))) H) : rIn K true (.str z) (.ref p) H Q :=
  ⟨p, _, rfl, .inr h, rfl, flat_strs ws, by rw [inV_strs]; exact q⟩
theorem rowok_sub {x : Sd} {r : List Str} {h : Int} {ns : List Str} (g : GoodSd h ns x) (k : RowOk x r) : r.length ≤ 4 := by
  have := List.Nodup.length_le_of_subset k.nd fun m hm => k.sub m hm
  have := steps_le g
  omega
def letS (l : List (Str × Sd)) (bk : List (Str × List Str)) (z : Str) : List Str := match bk.lookup z with
  | some r => r
  | none => stepsL ((l.lookup z).getD .fin)
def spLetSteps (C : Addr) : Sp := fun vs H Q _ => ∃ (a B : Addr) (h : Int) (st z : Str) (l : List (Str × Sd)) (bk : List (Str × List Str)) (x : Sd), vs = [.ref a, .ref B, .str z] ∧ WorkAt C H a h st l ∧ l.lookup z = some x ∧ GoodSd h (l.map (·.1)) x ∧ SrtSd x ∧ DictOf RwAt H B bk ∧ ∀ H' p, L2.Same H H' → H p = none → H' p = some (.lst (strsV (letS l bk z))) → Q (.ref p) H'
section
variable {P : Program} {w : World} {K : PySem.W.Frag} {mg : Str → Option Value} {base : Heap} {CW : Addr}
theorem ok_let_steps {f : Addr} {fd : FuncData} (F : Fun K "let_steps" "let_steps" s_let_steps f fd) (K_Work : Cls K CW) (Z_list : mg "list" = none) (T_Work_steps : Met P w K mg base CW 2 "steps" ["self", "stand"] (spSteps CW)) : FnOk P w K mg base CX0 3 f fd ["work", "book", "stand"] (spLetSteps CW) := by
  refine F.ok sc_let_steps (fun vs H Q E h => ?_) (fun cdv A outer s H vs Q E hr h => ?_)
  · obtain ⟨_, _, _, _, _, _, _, _, rfl, _⟩ := h
    rfl
  · obtain ⟨a, B, h, st, z, l, bk, x, rfl, wa, hx, gx, so, hB, q⟩ := h
    have hu := hu_of hr
    obtain ⟨m, b1, b2, b3⟩ := id hB.ex
    obtain ⟨dx, t, n, e, h1, hT, hN, hE⟩ := id wa.ex
    refine ⟨_, (pss_cons (ps_if (pt_cmp (pc_din hu (pv 2) (pv 1)))
      (pss_one (ps_ret (pe_callTy call_listA (by rfl) Z_list (by decide +kernel) (pa_cons (pe_dget hu (pv 1) (pv 2) (fun _ _ => rfl)) pa_nil))))
      pss_nil)
      (pss_one (ps_ret (pe_mt T_Work_steps K_Work (hr.mono (by decide)) (pv 0) (pa_cons (pv 2) pa_nil))))), ?_⟩
    walk_at "go"
    refine x_inD (l := m) (.inl b1) ?_
    cases hz : bk.lookup z with
    | some r =>
      obtain ⟨m2, y, c1, c2, c3⟩ := hB.at hz
      rw [b1] at c1
      have e1 := strK_inj (f := V.ref) (fun a b e => by cases e; rfl) (HO.dK.inj (Option.some.inj c1))
      subst e1
      rw [c2]
      walk_at "go"
      refine x_T ?_
      walk_at "go"
      refine x_getL (l := m) (.inl b1) c2 ?_
      walk_at "go"
      have c3' : H y = some (.tup (strsV r)) := c3
      refine x_listT (SqT.of c3') fun p hp => ?_
      refine q _ p (same_new hp) hp ?_
      rw [upd_same]
      unfold letS
      rw [hz]
    | none =>
      have hn : m.lookup z = none := by
        cases hq : m.lookup z with
        | none => rfl
        | some y =>
          obtain ⟨r, hr1, _⟩ := b3 z y (lookup_mem hq)
          rw [hz] at hr1
          cases hr1
      rw [hn]
      walk_at "go"
      refine x_F ?_
      walk_at "go"
      refine x_mti h1 (wkn (by decide +kernel)) ?_
      walk_at "go"
      refine ⟨a, h, st, z, l, x, rfl, wa, hx, gx, so, fun H1 p s1 hp hp1 => ?_⟩
      refine q H1 p s1 hp ?_
      unfold letS
      rw [hz, hx]
      exact hp1
end
/-! ### k69: books judged, right or odd -/
/-- what stands at a key: a row of things, or no row -/
inductive En
  | no
  | row (xs : List V)
def EnAt (K : PySem.W.Frag) (H : Hp) (v : V) : En → Prop
  | .no => ∃ k, Kd K H v k ∧ isB k .tup = false
  | .row xs => ∃ r, v = .ref r ∧ H r = some (.tup xs) ∧ (∀ y ∈ xs, ∃ k, Kd K H y k) ∧ (∀ z, V.str z ∈ xs → PyData.strOk z = true) ∧ xs.length ≤ 10
theorem EnAt.via {K : PySem.W.Frag} {H H' : Hp} (f : ∀ {x k}, Kd K H x k → Kd K H' x k) (g : ∀ {a xs}, H a = some (.tup xs) → H' a = some (.tup xs)) {v : V} {e : En} (h : EnAt K H v e) : EnAt K H' v e := by
  cases e with
  | no => exact h.elim fun k ⟨a, b⟩ => ⟨k, f a, b⟩
  | row xs =>
    obtain ⟨r, a, b, c, d⟩ := h
    exact ⟨r, a, g b, fun y hy => (c y hy).elim fun k h => ⟨k, f h⟩, d⟩
theorem EnAt.same {K : PySem.W.Frag} {H H' : Hp} {v : V} {e : En} (s : L2.Same H H') (h : EnAt K H v e) : EnAt K H' v e := h.via (fun z => z.same s) fun z => s _ _ z
theorem EnAt.held {K : PySem.W.Frag} {H : Hp} {d : Addr} {o : Obj} {u : HO} {v : V} {e : En} (hd : H d = some u) (hm : Mut (some u)) (h : EnAt K H v e) : EnAt K (upd H d (.frz o u)) v e :=
  h.via (kd_heldU hd hm) fun {a xs} z => by
    have n : a ≠ d := fun q => by
      rw [q, hd] at z
      cases z
      exact hm.elim
    rw [upd_ne n]
    exact z
/-- a row of a book at a stand with the steps ss -/
def EnOk (ss : List Str) : En → Prop
  | .no => False
  | .row xs => ∃ rr, xs = strsV rr ∧ rr ≠ [] ∧ (∀ m ∈ rr, m ∈ ss) ∧ rr.Pairwise LtS
theorem EnOk.mono {ss ss' : List Str} {e : En} (h : ∀ m, m ∈ ss → m ∈ ss') (o : EnOk ss e) : EnOk ss' e := by
  cases e with
  | no => exact o
  | row xs => obtain ⟨rr, a, b, c, d⟩ := o; exact ⟨rr, a, b, fun m hm => h m (c m hm), d⟩
theorem strsV_inj : ∀ {a b : List Str}, strsV a = strsV b → a = b
  | [], [], _ => rfl
  | [], _ :: _, h => by cases h
  | _ :: _, [], h => by cases h
  | x :: a, y :: b, h => by
    have h : V.str x :: strsV a = V.str y :: strsV b := h
    injection h with h1 h2
    injection h1 with h1
    rw [h1, strsV_inj h2]
theorem strs_take {xs : List V} {rr : List Str} (h : xs = strsV rr) (i : Nat) : xs.take i = strsV (rr.take i) := by rw [h]; exact (List.map_take ..).symm
theorem keyv_kd {K : PySem.W.Frag} {H : Hp} {k : NestedKey} {y : V} (h : KeyV K H k y) : ∃ n, Kd K H y n := by
  cases h with
  | non => exact ⟨_, .non⟩
  | bl b => exact ⟨_, .bl b⟩
  | int i => exact ⟨_, .int i⟩
  | text x => exact ⟨_, .str x⟩
  | tup h _ => exact ⟨_, .tup h⟩
theorem keyv_str {K : PySem.W.Frag} {H : Hp} {k : NestedKey} {z : Str} (h : KeyV K H k (.str z)) : k = .text z := by cases h; rfl
def EfT := V → En
/-- a dict that may be a book -/
structure BkX (K : PySem.W.Frag) (w : World) (H : Hp) (B : Addr) (kvs : MV) (ef : V → En) : Prop where
  wr : MWr w H B kvs
  ks : KeysOk K H kvs
  nd : (kvs.map (·.1)).Nodup
  en : ∀ p ∈ kvs, EnAt K H p.2.2 (ef p.2.2)
  ln : kvs.length ≤ 200
  gd : (∃ m : List (Str × V), kvs = mS m ∧ H B = some (.dK (vK m)) ∧ (m.map (·.1)).Nodup) ∨ ∃ q ∈ kvs, ∀ z, q.2.1 ≠ .str z
theorem BkX.same {K : PySem.W.Frag} {w : World} {H H' : Hp} {B : Addr} {kvs : MV} {ef : V → En} (s : L2.Same H H') (h : BkX K w H B kvs ef) : BkX K w H' B kvs ef :=
  ⟨h.wr.same s, KeysOk.same s h.ks, h.nd, fun p m => (h.en p m).same s, h.ln, h.gd.imp (fun ⟨m, a, b, c⟩ => ⟨m, a, s _ _ b, c⟩) id⟩
/-- the entry at a key is right -/
def PrOk (l : List (Str × Sd)) (ef : V → En) (p : NestedKey × V × V) : Prop := ∃ z k l2, p.2.1 = .str z ∧ l.lookup z = some (.hand k l2) ∧ EnOk (stepsL (.hand k l2)) (ef p.2.2)
def BkOk (l : List (Str × Sd)) (kvs : MV) (ef : V → En) : Prop := ∀ p ∈ kvs, PrOk l ef p
abbrev BO := Option (MV × (V → En))
def BT (K : PySem.W.Frag) (w : World) (H : Hp) (v : V) (o : BO) : Prop := (o = none ∧ ∃ k, Kd K H v k ∧ k ≠ .dict) ∨ ∃ B kvs ef, o = some (kvs, ef) ∧ v = .ref B ∧ BkX K w H B kvs ef
theorem BT.same {K : PySem.W.Frag} {w : World} {H H' : Hp} {v : V} {o : BO} (s : L2.Same H H') (h : BT K w H v o) : BT K w H' v o := h.imp (fun ⟨a, k, b, c⟩ => ⟨a, k, b.same s, c⟩) fun ⟨B, kvs, ef, a, b, c⟩ => ⟨B, kvs, ef, a, b, c.same s⟩
def BtOk (l : List (Str × Sd)) (o : BO) : Prop := ∃ kvs ef, o = some (kvs, ef) ∧ BkOk l kvs ef
theorem wo_frz {H : Hp} {B : Addr} {u : HO} : L2.Same (wo H B) (upd H B u) := same_upd wo_same wo_at
theorem valM_of {kvs : MV} (nd : (kvs.map (·.1)).Nodup) {p : NestedKey × V × V} (h : p ∈ kvs) : valM kvs p.1 = some p.2.2 := by
  induction kvs with
  | nil => cases h
  | cons q r ih =>
    obtain ⟨n1, n2⟩ := List.nodup_cons.mp nd
    rw [valM]
    rcases List.mem_cons.mp h with rfl | h
    · rw [if_pos rfl]
    · rw [if_neg (fun e => n1 (List.mem_map.mpr ⟨p, h, e.symm⟩))]
      exact ih n2 h
def spIsEntryX (K : PySem.W.Frag) : Sp := fun vs H Q _ => ∃ (p : Addr) (v : V) (ss : List Str) (en : En), vs = [.ref p, v] ∧ SqL K H p (strsV ss) ∧ EnAt K H v en ∧ ∀ H' b, L2.Same H H' → (b = true ↔ EnOk ss en) → Q (.bl b) H'
def spIsBookX (K : PySem.W.Frag) (w : World) (C : Addr) : Sp := fun vs H Q _ => ∃ (a : Addr) (v : V) (h : Int) (st : Str) (l : List (Str × Sd)) (o : BO), vs = [.ref a, v] ∧ WorkAt C H a h st l ∧ (∀ B, o ≠ none → v = .ref B → WorkAt C (wo H B) a h st l) ∧ GoodT h l ∧ (∀ z x, l.lookup z = some x → SrtSd x) ∧ BT K w H v o ∧
  ∀ H' b, L2.Same H H' → (b = true ↔ BtOk l o) → Q (.bl b) H'
section
variable {P : Program} {w : World} {K : PySem.W.Frag} {mg : Str → Option Value} {base : Heap} {CW : Addr}
theorem ok_is_entry {f : Addr} {fd : FuncData} (F : Fun K "is_entry" "is_entry" s_is_entry f fd) (Z_isinstance : mg "isinstance" = none) (Z_tuple : mg "tuple" = none) (Z_str : mg "str" = none) (Z_len : mg "len" = none) (Z_enumerate : mg "enumerate" = none) : FnOk P w K mg base CX0 1 f fd ["steps", "row"] (spIsEntryX K) := by
  refine F.ok sc_is_entry (fun vs H Q E h => ?_) (fun cdv A outer s H vs Q E hr h => ?_)
  · obtain ⟨_, _, _, _, rfl, _⟩ := h
    rfl
  · obtain ⟨p, v, ss, en, rfl, hp, hv, q⟩ := h
    have no : ∀ H', L2.Same H H' → ¬ EnOk ss en → Q (.bl false) H' := fun H' s hn => q H' false s ⟨fun h => (by cases h), fun h => absurd h hn⟩
    refine ⟨_, (pss_cons (ps_if (PW.pt (pw_or (pt_not (pt_val (pe_callB call_isi (by rfl) Z_isinstance (by decide +kernel) (pa_cons (pv 1) (pa_cons (pe_bltn (v := .ty "tuple") (by rfl) Z_tuple (by decide +kernel) rfl) pa_nil))))) (pw_or1 (pt_cmpR op_eq (pe_callB call_lenA (by rfl) Z_len (by decide +kernel) (pa_cons (pv 1) pa_nil)) pe_int (nomark _)))))
      (pss_one (ps_ret pe_bl))
      pss_nil)
      (pss_cons (ps_for PassesOwn.never rfl (pi_enumT (by rfl) Z_enumerate (pa_cons (pv 1) pa_nil)) (pg_tup rfl (pgs_cons (pg_name (i := 2) sc_is_entry.nd rfl (Or.inl rfl)) (pgs_cons (pg_name (i := 3) sc_is_entry.nd rfl (Or.inl rfl)) pgs_nil)))
      (pss_cons (ps_if (PW.pt (pw_or (pt_not (pt_val (pe_callB call_isi (by rfl) Z_isinstance (by decide +kernel) (pa_cons (pv 3) (pa_cons (pe_bltn (v := .ty "str") (by rfl) Z_str (by decide +kernel) rfl) pa_nil))))) (pw_or1 (pt_cmpR op_notIn_seq (pv 3) (pv 0) rfl))))
      (pss_one (ps_ret pe_bl))
      pss_nil)
      (pss_one (ps_if (PW.pt (pw_and (pt_cmpR op_gt (pv 2) pe_int (nomark _)) (pw_and1 (pt_cmpR op_geS (pe_ix ix_tup (pv 1) (pe_op op_sub (pv 2) pe_int) (fun _ _ => rfl)) (pv 3) (nomark _)))))
      (pss_one (ps_ret pe_bl))
      pss_nil))))
      (pss_one (ps_ret pe_bl)))), ?_⟩
    walk_at "go"
    cases en with
    | no =>
      obtain ⟨k, hk, hkt⟩ := hv
      refine x_isiTup hk ?_
      rw [hkt]
      walk_at "go"
      exact no _ (L2.Same.refl _) id
    | row xs =>
      obtain ⟨r, rfl, hr, hks, _, hl⟩ := hv
      have hr := SqT.of (K := K) hr
      refine x_isiTup (.tup hr) ?_
      walk_at "go"
      refine x_nT ?_
      walk_at "go"
      refine x_lenT hr ?_
      walk_at "go"
      refine x_dec (fun h0 => ?_) (fun h0 => ?_)
      · walk_at "go"
        refine no _ (L2.Same.refl _) fun ⟨rr, e, ne, _⟩ => ne ?_
        have e0 : xs.length = rr.length := by rw [e]; exact List.length_map ..
        exact List.length_eq_zero_iff.mp (by omega)
      walk_at "go"
      refine lpE (xs := xs) (fun i σ H' => ∃ v2 v3 rr, σ = [some (.ref p), some (.ref r), v2, v3] ∧ L2.Same H H' ∧ xs.take i = strsV rr ∧ (∀ m ∈ rr, m ∈ ss) ∧ rr.Pairwise LtS) (.inr fun σ H' i _ ⟨_, _, _, _, s2, _⟩ => same_t s2 hr) ⟨_, _, [], rfl, fun _ _ h => h, by simp [strsV], fun m hm => (by cases hm), .nil⟩ ?_ ?_
      · rintro i x σ H2 TT hx ⟨v2, v3, rr, rfl, s2, et, sub, pw⟩ hT
        obtain ⟨k, hk⟩ := hks x (List.mem_of_getElem? hx)
        have hi : i < xs.length := (List.getElem?_eq_some_iff.mp hx).1
        have el : rr.length = i := by
          have := congrArg List.length et
          rw [List.length_take, Nat.min_eq_left (by omega)] at this
          rw [this]
          exact (List.length_map ..).symm
        have s3 : L2.Same H (upd H2 TT (.tup [.int (i : Nat), x])) := same_upd s2 (s2.free hT)
        refine x_g2 (SqT.of upd_same) ?_
        generalize upd H2 TT (.tup [.int (i : Nat), x]) = H3 at s3 ⊢
        walk_at "go"
        refine x_isiStr (hk.same s3) ?_
        by_cases hks : k = .str
        · subst hks
          obtain ⟨m, rfl⟩ : ∃ m, x = .str m := by
            cases hk with
            | str m => exact ⟨m, rfl⟩
          have at_ : ∀ {rr' : List Str}, xs = strsV rr' → rr'[i]? = some m := fun {rr'} e => by
            rw [e] at hx
            have hx : (rr'.map V.str)[i]? = some (.str m) := hx
            rw [List.getElem?_map] at hx
            cases hq : rr'[i]? with
            | none => rw [hq] at hx; cases hx
            | some y => rw [hq] at hx; cases hx; rfl
          walk_at "go"
          refine x_nT ?_
          walk_at "go"
          refine x_ninL (ws := ss) (s3.seq hp) ?_
          walk_at "go"
          refine x_ndec (fun hm => ?_) (fun hm => ?_)
          · walk_at "go"
            exact no _ s3 fun ⟨rr', e, _, sb, _⟩ => hm (sb m (List.mem_of_getElem? (at_ e)))
          walk_at "go"
          have next : (∀ y ∈ rr, LtS y m) → ∀ v2 v3, ∃ v2' v3' rr', [some (V.ref p), some (.ref r), v2, v3] = [some (.ref p), some (.ref r), v2', v3'] ∧ L2.Same H H3 ∧ xs.take (i + 1) = strsV rr' ∧ (∀ m ∈ rr', m ∈ ss) ∧ rr'.Pairwise LtS := fun hl v2 v3 =>
            ⟨v2, v3, rr ++ [m], rfl, s3, by rw [take_succ_get hx, et, strsV_snoc], fun y hy => by
              rcases List.mem_append.mp hy with hy | hy
              · exact sub y hy
              · rw [List.mem_singleton.mp hy]; exact hm, List.pairwise_append.mpr ⟨pw, List.pairwise_singleton .., fun a ha b hb => by rw [List.mem_singleton.mp hb]; exact hl a ha⟩⟩
          refine x_dec (fun hpos => ?_) (fun hpos => ?_)
          · obtain ⟨j, rfl⟩ : ∃ j, i = j + 1 := ⟨i - 1, by omega⟩
            have hj : rr[j]? = some rr[j] := List.getElem?_eq_getElem (by omega)
            have hxj : xs[j]? = some (.str rr[j]) := by
              have : (xs.take (j + 1))[j]? = some (.str rr[j]) := by
                rw [et]
                show (rr.map V.str)[j]? = _
                rw [List.getElem?_map, hj]
                rfl
              rwa [List.getElem?_take_of_lt (by omega)] at this
            walk_at "go"
            refine x_ixt j (same_t s3 hr) (by omega) hxj ?_
            walk_at "go"
            refine x_str2 ?_
            walk_at "go"
            refine x_ndec (fun hlt => ?_) (fun hlt => ?_)
            · walk_at "go"
              refine no _ s3 fun ⟨rr', e, _, _, pw'⟩ => hlt ?_
              have e1 := strsV_inj (et.symm.trans (strs_take e (j + 1)))
              have h1 : rr'[j]? = some rr[j] := by
                have c : rr[j]? = (rr'.take (j + 1))[j]? := congrArg (fun z => z[j]?) e1
                rw [List.getElem?_take_of_lt (by omega), hj] at c
                exact c.symm
              have h2 := at_ e
              obtain ⟨l1, g1⟩ := List.getElem?_eq_some_iff.mp h1
              obtain ⟨l2, g2⟩ := List.getElem?_eq_some_iff.mp h2
              have := List.pairwise_iff_getElem.mp pw' j (j + 1) l1 l2 (by omega)
              rw [g1, g2] at this
              exact this
            · walk_at "go"
              refine next (fun y hy => ?_) _ _
              obtain ⟨i2, h2, rfl⟩ := List.getElem_of_mem hy
              rcases Nat.lt_or_ge i2 j with c | c
              · exact List.lt_trans (List.pairwise_iff_getElem.mp pw i2 j h2 (by omega) c) hlt
              · have : i2 = j := by omega
                subst this
                exact hlt
          · walk_at "go"
            refine next (fun y hy => ?_) _ _
            have : rr = [] := List.length_eq_zero_iff.mp (by omega)
            rw [this] at hy
            cases hy
        · rw [not_strK hks]
          walk_at "go"
          refine no _ s3 fun ⟨rr', e, _⟩ => hks ?_
          rw [e] at hx
          have hx : (rr'.map V.str)[i]? = some x := hx
          rw [List.getElem?_map] at hx
          cases hq : rr'[i]? with
          | none => rw [hq] at hx; cases hx
          | some y =>
            rw [hq] at hx
            cases hx
            cases hk
            rfl
      · rintro σ H2 ⟨v2, v3, rr, rfl, s2, et, sub, pw⟩
        walk_at "go"
        rw [List.take_length] at et
        refine q H2 true s2 ⟨fun _ => ⟨rr, et, fun e => h0 ?_, sub, pw⟩, fun _ => rfl⟩
        rw [et, e]
        rfl
theorem ok_is_book {f : Addr} {fd : FuncData} (F : Fun K "is_book" "is_book" s_is_book f fd) (K_Work : Cls K CW) (N1 : NoAttr K CW "names") (Z_isinstance : mg "isinstance" = none) (Z_dict : mg "dict" = none) (Z_str : mg "str" = none)
    (T_Work_kind : Met P w K mg base CW 2 "kind" ["self", "stand"] (spKind CW)) (T_Work_steps : Met P w K mg base CW 2 "steps" ["self", "stand"] (spSteps CW)) (C_is_entry : Cal P w K mg base 1 "is_entry" ["steps", "row"] (spIsEntryX K)) : FnOk P w K mg base CX0 3 f fd ["work", "thing"] (spIsBookX K w CW) := by
  refine F.ok sc_is_book (fun vs H Q E h => ?_) (fun cdv A outer s H vs Q E hr h => ?_)
  · obtain ⟨_, _, _, _, _, _, rfl, _⟩ := h
    rfl
  · obtain ⟨a, v, h, st, l, o, rfl, wa, wb, g, srt, hB, q⟩ := h
    have hu := hu_of hr
    refine ⟨_, (pss_cons (ps_if (pt_not (pt_val (pe_callB call_isiU (by rfl) Z_isinstance (by decide +kernel) (pa_cons (pv 1) (pa_cons (pe_bltn (v := .ty "dict") (by rfl) Z_dict (by decide +kernel) rfl) pa_nil)))))
      (pss_one (ps_ret pe_bl))
      pss_nil)
      (pss_cons (ps_lock (ps_for PassesOwn.never rfl (pi_keysU (pv 1)) (pg_name (i := 2) sc_is_book.nd rfl (Or.inl rfl))
      (pss_cons (ps_if (PW.pt (pw_or (pt_not (pt_val (pe_callB call_isi (by rfl) Z_isinstance (by decide +kernel) (pa_cons (pv 2) (pa_cons (pe_bltn (v := .ty "str") (by rfl) Z_str (by decide +kernel) rfl) pa_nil))))) (pw_or (pt_cmpR op_notIn_seq (pv 2) (pe_fld (pv 0) rfl) rfl) (pw_or1 (pt_cmpR op_ne (pe_mt T_Work_kind K_Work (hr.mono (by decide)) (pv 0) (pa_cons (pv 2) pa_nil)) pe_str (nomark _))))))
      (pss_one (ps_ret pe_bl))
      pss_nil)
      (pss_one (ps_if (pt_not (pt_val (pe_cal C_is_entry (hr.mono (by decide)) (by rfl) (pa_cons (pe_mt T_Work_steps K_Work (hr.mono (by decide)) (pv 0) (pa_cons (pv 2) pa_nil)) (pa_cons (pe_mget (hu100 hr) (pv 1) (pv 2) (fun _ _ => rfl)) pa_nil)))))
      (pss_one (ps_ret pe_bl))
      pss_nil)))))
      (pss_one (ps_ret pe_bl)))), ?_⟩
    walk_at "go"
    rcases hB with ⟨rfl, k, hk, hkd⟩ | ⟨B, kvs, ef, rfl, rfl, hX⟩
    · refine x_isiO (x_isiDict hk ?_)
      rw [not_dict hkd]
      walk_at "go"
      exact q _ _ (L2.Same.refl _) ⟨(fun h => by cases h), fun ⟨_, _, e, _⟩ => by cases e⟩
    · have q : ∀ H' b, L2.Same H H' → (b = true ↔ BkOk l kvs ef) → Q (.bl b) H' := fun H' b s e => q H' b s (e.trans ⟨fun h => ⟨_, _, rfl, h⟩, fun ⟨_, _, e, h⟩ => by cases e; exact h⟩)
      refine x_isiMd hX.wr.rd ?_
      walk_at "go"
      refine x_lockM hX.wr fun od u hu0 hmu fz => ?_
      have waw := (wb B (by simp) rfl).same (wo_frz (u := .frz od u))
      refine x_forKU ?_
      walk_at "go"
      refine lpKU (fun i σ H' => ∃ v2, σ = [some (.ref a), some (.ref B), v2] ∧ L2.Same (upd H B (.frz od u)) H' ∧ ∀ p ∈ kvs.take i, PrOk l ef p) fz ?_ ?_ ?_ ?_
      · exact ⟨none, rfl, L2.Same.refl _, by simp⟩
      · exact fun i σ H' _ ⟨_, _, s1, _⟩ => FzM.same s1 fz
      · rintro i ⟨pk, py, pv⟩ σ H2 hi ⟨v2, rfl, s2, hall⟩
        have hm := List.mem_of_getElem? hi
        obtain ⟨hkey, hkd⟩ := hX.ks _ hm
        obtain ⟨n, hn⟩ := keyv_kd hkey
        have hen0 := hX.en _ hm
        dsimp only at hkey hkd hn hen0 ⊢
        have w2 := waw.same s2
        obtain ⟨dx, t, nn, e, h1, hT, hN, hE⟩ := id w2.ex
        have bad : ∀ H', L2.Same H2 H' → ¬ PrOk l ef (pk, py, pv) → H' B = some (.frz od u) ∧ Q (.bl false) (upd H' B u) := fun H' s' hb =>
          ⟨s' _ _ (s2 _ _ upd_same), q _ false (unlock_s hu0 (s2.trans s')) ⟨(fun h => by cases h), fun h => absurd (h _ hm) hb⟩⟩
        walk_at "go"
        refine x_isiStr ((kd_heldU hu0 hmu hn).same s2) ?_
        by_cases hns : n = .str
        · subst hns
          obtain ⟨z, rfl⟩ : ∃ z, py = .str z := by
            cases hn with
            | str z => exact ⟨z, rfl⟩
          have ek := keyv_str hkey
          subst ek
          walk_at "go"
          refine x_nT ?_
          walk_at "go"
          refine x_fld K_Work N1 h1 wkF_names ?_
          walk_at "go"
          refine x_ninTs (ws := l.map (·.1)) (SqT.of hN) ?_
          walk_at "go"
          refine x_ndec (fun hz => ?_) (fun hz => ?_)
          · walk_at "go"
            refine bad _ (L2.Same.refl _) fun ⟨z', k, l2, e1, e2, _⟩ => hz ?_
            cases e1
            exact List.mem_map.mpr ⟨_, lookup_mem e2, rfl⟩
          obtain ⟨x, hx⟩ := lookup_isSome hz
          have gx := g.sd z _ hx
          walk_at "go"
          refine x_mti h1 (wkn (by decide +kernel)) ?_
          walk_at "go"
          refine ⟨a, h, st, z, l, _, rfl, w2.rd, hx, ?_⟩
          walk_at "go"
          refine x_ndec (fun hh => ?_) (fun hh => ?_)
          · walk_at "go"
            refine bad _ (L2.Same.refl _) fun ⟨z', k, l2, e1, e2, _⟩ => hh ?_
            cases e1
            rw [hx] at e2
            cases e2
            rfl
          obtain ⟨k, l2, rfl⟩ : ∃ k l2, x = .hand k l2 := by
            cases x with
            | hand k l2 => exact ⟨k, l2, rfl⟩
            | fin => exact absurd (show ("end" : Str) = "hand" from hh) (by decide +kernel)
            | chance l2 => exact absurd (show ("chance" : Str) = "hand" from hh) (by decide +kernel)
          walk_at "go"
          refine x_mti h1 (wkn (by decide +kernel)) ?_
          walk_at "go"
          refine ⟨a, h, st, z, l, _, rfl, w2.rd, hx, gx, srt z _ hx, fun H3 p3 s3 hp hp3 => ?_⟩
          walk_at "go"
          refine x_mget ?_
          walk_at "go"
          have hfz3 := FzM.same (s2.trans s3) fz
          have hen := ((hen0.held (o := od) hu0 hmu).same s2).same s3
          have hks3 : KeysOk K H3 kvs := KeysOk.same (s2.trans s3) (hX.ks.via fun _ _ => sqT_heldU hu0 hmu)
          refine x_mgetS (v := pv) ⟨hfz3.rd, hks3⟩ (valM_of hX.nd hm) ?_
          walk_at "go"
          refine ⟨p3, pv, _, ef pv, rfl, SqL.of hp3, hen, fun H4 b s4 hb => ?_⟩
          walk_at "go"
          cases b with
          | false =>
            walk_at "go"
            refine bad _ (s3.trans s4) fun ⟨z', k', l2', e1, e2, e3⟩ => ?_
            cases e1
            rw [hx] at e2
            cases e2
            exact Bool.false_ne_true (hb.mpr e3)
          | true =>
            walk_at "go"
            refine ⟨_, rfl, (s2.trans s3).trans s4, fun p' hp' => ?_⟩
            rw [take_succ_get hi] at hp'
            rcases List.mem_append.mp hp' with hp' | hp'
            · exact hall p' hp'
            · rw [List.mem_singleton.mp hp']
              exact ⟨z, k, l2, rfl, hx, hb.mp rfl⟩
        · rw [not_strK hns]
          walk_at "go"
          refine bad _ (L2.Same.refl _) fun ⟨z', _, _, e1, _⟩ => hns ?_
          have e1 : py = .str z' := e1
          subst e1
          cases hn
          rfl
      · rintro σ H2 ⟨v2, rfl, s2, hall⟩
        refine ⟨s2 B _ upd_same, ?_⟩
        walk_at "go"
        rw [List.take_length] at hall
        exact q _ true (unlock_s hu0 s2) ⟨fun _ => hall, fun _ => rfl⟩
end
/-! ### k69: books judged by the law; breaches -/
def strOf : V → Str
  | .str z => z
  | _ => ""
def rowOf : En → List Str
  | .row xs => xs.map strOf
  | .no => []
/-- the book that a dict is, if it is one -/
def bkO (kvs : MV) (ef : V → En) : List (Str × List Str) := kvs.map fun p => (strOf p.2.1, rowOf (ef p.2.2))
def adOf : V → Addr
  | .ref a => a
  | _ => 0
theorem strOf_strs (rr : List Str) : (strsV rr).map strOf = rr := by
  show (rr.map V.str).map strOf = rr
  rw [List.map_map]
  exact List.map_id' _ |>.trans rfl
theorem bk_of {K : PySem.W.Frag} {w : World} {H : Hp} {B : Addr} {kvs : MV} {ef : V → En} {l : List (Str × Sd)} (X : BkX K w H B kvs ef) (ok : BkOk l kvs ef) : DictOf RwAt H B (bkO kvs ef) ∧ ((bkO kvs ef).map (·.1)).Nodup ∧ BookOk l (bkO kvs ef) := by
  rcases X.gd with ⟨m, rfl, hB, nd⟩ | ⟨q, hq, bad⟩
  · have all_ : ∀ q ∈ m, PrOk l ef (.text q.1, .str q.1, q.2) ∧ EnAt K H q.2 (ef q.2) := fun q hq => by
      have hm : (.text q.1, .str q.1, q.2) ∈ mS m := List.mem_map.mpr ⟨(Sum.inr q.1, q.2), List.mem_map.mpr ⟨q, hq, rfl⟩, rfl⟩
      exact ⟨ok _ hm, X.en _ hm⟩
    have e1 : bkO (mS m) ef = m.map fun q => (q.1, rowOf (ef q.2)) := by
      unfold bkO mS strK
      rw [List.map_map, List.map_map]
      rfl
    have row : ∀ q ∈ m, ∃ rr k l2, q.2 = .ref (adOf q.2) ∧ H (adOf q.2) = some (.tup (strsV rr)) ∧ rowOf (ef q.2) = rr ∧ l.lookup q.1 = some (.hand k l2) ∧ rr ≠ [] ∧ (∀ x ∈ rr, x ∈ stepsL (.hand k l2)) ∧ rr.Pairwise LtS := fun q hq => by
      obtain ⟨⟨z, k, l2, e, hl, eo⟩, en⟩ := all_ q hq
      cases e
      generalize q.2 = v at eo en ⊢
      generalize ef v = e at eo en ⊢
      cases e with
      | no => exact eo.elim
      | row xs =>
        obtain ⟨rr, rfl, ne, sub, pw⟩ := eo
        obtain ⟨r, rfl, hr, _⟩ := en
        exact ⟨rr, k, l2, rfl, hr, strOf_strs rr, hl, ne, sub, pw⟩
    have e2 : vK m = strK V.ref (m.map fun q => (q.1, adOf q.2)) := by
      show List.map _ m = List.map _ (List.map _ m)
      rw [List.map_map]
      refine List.map_congr_left fun q hq => ?_
      obtain ⟨_, _, _, e, _⟩ := row q hq
      show ((Sum.inr q.1 : Key), q.2) = (Sum.inr q.1, V.ref (adOf q.2))
      rw [← e]
    rw [e1]
    have ks : (m.map fun q => (q.1, rowOf (ef q.2))).map (·.1) = m.map (·.1) := by rw [List.map_map]; rfl
    refine ⟨⟨⟨m.map fun q => (q.1, adOf q.2), by rw [hB, e2], by rw [ks, List.map_map]; rfl, fun z a hza => ?_⟩⟩, by rw [ks]; exact nd, fun q hq => ?_⟩
    · obtain ⟨q, hq, e⟩ := List.mem_map.mp hza
      obtain ⟨rr, k, l2, _, hr, er, _⟩ := row q hq
      cases e
      refine ⟨rr, ?_, hr⟩
      exact lookup_of (by rw [ks]; exact nd) (List.mem_map.mpr ⟨q, hq, by rw [er]⟩)
    · obtain ⟨q, hq2, rfl⟩ := List.mem_map.mp hq
      obtain ⟨rr, k, l2, _, hr, er, hl, ne, sub, pw⟩ := row q hq2
      refine ⟨k, l2, hl, ?_⟩
      show RowOk _ (rowOf (ef q.2))
      rw [er]
      refine ⟨pw.imp fun {a b} h => ?_, pw.imp fun {a b} h e => ?_, ne, sub⟩
      · show ltCps b.cps.toList a.cps.toList = false
        rw [ltCps_eq]
        exact decide_eq_false fun h2 => List.lt_irrefl _ (List.lt_trans h h2)
      · have h : a.cps.toList < b.cps.toList := h
        rw [e] at h
        exact List.lt_irrefl _ h
  · obtain ⟨z, _, _, e, _⟩ := ok q hq
    exact absurd e (bad z)
theorem bkok_sort {l lw : List (Str × Sd)} {kvs : MV} {ef : V → En} (T : TabSort l lw) : BkOk lw kvs ef ↔ BkOk l kvs ef := by
  have hand : ∀ {x x' : Sd} {k l2}, SdSort x x' → (x = .hand k l2 ∨ x' = .hand k l2) → ∃ k1 l1 k2 l2, x = .hand k1 l1 ∧ x' = .hand k2 l2 := fun {x x' k l2} s h => by
    have e := sort_kind s
    cases x <;> cases x'
    all_goals first
      | exact ⟨_, _, _, _, rfl, rfl⟩
      | (rcases h with h | h <;> cases h <;> exact absurd e (by show ¬ (("end" : Str) = "hand"); decide +kernel))
      | (rcases h with h | h <;> cases h <;> exact absurd e (by show ¬ (("hand" : Str) = "end"); decide +kernel))
      | (rcases h with h | h <;> cases h <;> exact absurd e (by show ¬ (("chance" : Str) = "hand"); decide +kernel))
      | (rcases h with h | h <;> cases h <;> exact absurd e (by show ¬ (("hand" : Str) = "chance"); decide +kernel))
      | (rcases h with h | h <;> cases h)
  constructor
  · intro h p hp
    obtain ⟨z, k, l2, e, hl, eo⟩ := h p hp
    obtain ⟨x, hx, s⟩ := T.sd z _ hl
    obtain ⟨k1, l1, k2, l3, rfl, e2⟩ := hand s (.inr rfl)
    exact ⟨z, k1, l1, e, hx, eo.mono fun m hm => (sort_steps s).mem_iff.mp hm⟩
  · intro h p hp
    obtain ⟨z, k, l2, e, hl, eo⟩ := h p hp
    obtain ⟨x, hx, s⟩ := tab_look T hl
    obtain ⟨k1, l1, k2, l3, e1, rfl⟩ := hand s (.inl rfl)
    exact ⟨z, k2, l3, e, hx, eo.mono fun m hm => (sort_steps s).mem_iff.mpr hm⟩
theorem btok_sort {l lw : List (Str × Sd)} {o : BO} (T : TabSort l lw) : BtOk lw o ↔ BtOk l o :=
  ⟨fun ⟨a, b, e, h⟩ => ⟨a, b, e, (bkok_sort T).mp h⟩, fun ⟨a, b, e, h⟩ => ⟨a, b, e, (bkok_sort T).mpr h⟩⟩
theorem entry_iff {ss rr : List Str} (hs : ss.Pairwise LtS) : rr = ss.filter (fun m => decide (m ∈ rr)) ↔ (∀ m ∈ rr, m ∈ ss) ∧ rr.Pairwise LtS := by
  have nd : ∀ {l : List Str}, l.Pairwise LtS → l.Nodup := fun {l} h => h.imp fun {a b} h e => by
    have h : a.cps.toList < b.cps.toList := h
    rw [e] at h
    exact List.lt_irrefl _ h
  constructor
  · intro h
    have f := hs.filter (fun m => decide (m ∈ rr))
    rw [← h] at f
    exact ⟨fun m hm => by rw [h] at hm; exact (List.mem_filter.mp hm).1, f⟩
  · rintro ⟨sub, pw⟩
    refine List.Perm.eq_of_pairwise (le := LtS) (fun a b _ _ h1 h2 => absurd (List.lt_trans h1 h2) (List.lt_irrefl _)) pw (hs.filter _) ((List.perm_ext_iff_of_nodup (nd pw) (nd (hs.filter _))).mpr fun m => ?_)
    rw [List.mem_filter, decide_eq_true_eq]
    exact ⟨fun h => ⟨sub m h, h⟩, fun h => h.2⟩
/-- a text -/
def isStrB : V → Bool
  | .str _ => true
  | _ => false
theorem kd_isStr {K : PySem.W.Frag} {H : Hp} {y : V} {k : Kn} (h : Kd K H y k) : isB k .str = isStrB y := by cases h <;> rfl
theorem all_strs : ∀ {xs : List V}, (xs.map isStrB).all id = true → ∃ rr, xs = strsV rr
  | [], _ => ⟨[], rfl⟩
  | y :: r, h => by
    rw [List.map_cons, List.all_cons, Bool.and_eq_true] at h
    obtain ⟨rr, rfl⟩ := all_strs h.2
    cases y with
    | str z => exact ⟨z :: rr, rfl⟩
    | _ => cases h.1
def spEntryL (K : PySem.W.Frag) : Sp := fun vs H Q _ => ∃ (p : Addr) (v : V) (ss : List Str) (en : En), vs = [.ref p, v] ∧ SqL K H p (strsV ss) ∧ ss.Pairwise LtS ∧ (∀ m ∈ ss, PyData.strOk m = true) ∧ ss.length ≤ 4 ∧ EnAt K H v en ∧ ∀ H' b, L2.Same H H' → (b = true ↔ EnOk ss en) → Q (.bl b) H'
def spRightL (K : PySem.W.Frag) (w : World) : Sp := fun vs H Q _ => ∃ (D : Addr) (v : V) (h : Int) (l : List (Str × Sd)) (o : BO), vs = [.ref D, v] ∧ TabRd H D l ∧ (∀ B, o ≠ none → v = .ref B → TabRd (wo H B) D l) ∧ GoodT h l ∧ BT K w H v o ∧
  ∀ H' b, L2.Same H H' → (b = true ↔ BtOk l o) → Q (.bl b) H'
def spSameB : Sp := fun vs H Q _ => ∃ b c r : Bool, vs = [.bl b, .bl c] ∧ (b == c) = r ∧ Q (.bl r) H
/-- the move s at z is not let -/
def Unlet (bk : List (Str × List Str)) (z s : Str) : Prop := ∃ r, bk.lookup z = some r ∧ s ∉ r
/-- the first breach of a run -/
def Br (l : List (Str × Sd)) (bk : List (Str × List Str)) (run ts : List Str) : Option (Nat × V) → Prop
  | none => ∀ (j : Nat) y u, run[j]? = some u → ts[j]? = some y → ¬ Unlet bk y u
  | some (k, v) => (∃ z s, run[k]? = some s ∧ ts[k]? = some z ∧ Unlet bk z s ∧ v = moverAt l z) ∧ ∀ (j : Nat) y u, j < k → run[j]? = some u → ts[j]? = some y → ¬ Unlet bk y u
theorem Br.one {l : List (Str × Sd)} {bk : List (Str × List Str)} {run ts : List Str} {o o' : Option (Nat × V)} (h : Br l bk run ts o) (h' : Br l bk run ts o') : o = o' := by
  cases o with
  | none =>
    cases o' with
    | none => rfl
    | some q =>
      obtain ⟨⟨z, s, a, b, c, _⟩, _⟩ := h'
      exact absurd c (h _ z s a b)
  | some q =>
    cases o' with
    | none =>
      obtain ⟨⟨z, s, a, b, c, _⟩, _⟩ := h
      exact absurd c (h' _ z s a b)
    | some q' =>
      obtain ⟨k, v⟩ := q
      obtain ⟨k', v'⟩ := q'
      obtain ⟨⟨z, s, a, b, c, d⟩, e⟩ := h
      obtain ⟨⟨z', s', a', b', c', d'⟩, e'⟩ := h'
      rcases Nat.lt_trichotomy k k' with g | g | g
      · exact absurd c (e' k z s g a b)
      · subst g
        rw [a] at a'
        rw [b] at b'
        cases a'
        cases b'
        rw [d, d']
      · exact absurd c' (e k' z' s' g a' b')
def BrAt (H : Hp) (v : V) : Option (Nat × V) → Prop
  | none => v = .non
  | some (k, m) => ∃ T, v = .ref T ∧ H T = some (.tup [.int (k : Int), m])
theorem BrAt.same {H H' : Hp} {v : V} {o : Option (Nat × V)} (s : L2.Same H H') (h : BrAt H v o) : BrAt H' v o := by
  cases o with
  | none => exact h
  | some q => obtain ⟨T, a, b⟩ := h; exact ⟨T, a, s _ _ b⟩
def spBreachL (K : PySem.W.Frag) : Sp := fun vs H Q _ => ∃ (D B R : Addr) (st : Str) (h : Int) (l : List (Str × Sd)) (bk : List (Str × List Str)) (run ts : List Str), vs = [.ref D, .ref B, .str st, .ref R] ∧ TabRd H D l ∧ GoodT h l ∧ DictOf RwAt H B bk ∧ SqL K H R (strsV run) ∧ run.length ≤ 40 ∧ Trail l st run ts ∧ st ∈ l.map (·.1) ∧
  ∀ H' v o, L2.Same H H' → Br l bk run ts o → BrAt H' v o → Q v H'
theorem Trail.mem {h : Int} {l : List (Str × Sd)} {st : Str} {run ts : List Str} (g : GoodT h l) (hst : st ∈ l.map (·.1)) (T : Trail l st run ts) : ∀ (i : Nat) (z : Str), ts[i]? = some z → z ∈ l.map (·.1)
  | 0, z, h => by
    rw [T.at0] at h
    cases h
    exact hst
  | i + 1, z, h => by
    have hi := (List.getElem?_eq_some_iff.mp h).1
    rw [T.len] at hi
    have hr : run[i]? = some (run[i]'(by omega)) := List.getElem?_eq_getElem _
    have ht : ts[i]? = some (ts[i]'(by rw [T.len]; omega)) := List.getElem?_eq_getElem _
    obtain ⟨t, h1, h2⟩ := T.step i _ _ hr ht
    rw [h] at h2
    cases h2
    obtain ⟨x, hx, hs⟩ := toAt_some h1
    exact toS_good (g.sd _ x hx) hs
section
variable {P : Program} {w : World} {K : PySem.W.Frag} {mg : Str → Option Value} {base : Heap}
theorem ok_l_same {f : Addr} {fd : FuncData} (F : Fun K "_law_same" "_law_same" s_l_same f fd) (Z_isinstance : mg "isinstance" = none) (Z_bool : mg "bool" = none) : FnOk P w K mg base CX0 1 f fd ["_law_told", "_law_expected"] spSameB := by
  refine F.ok sc_l_same (fun vs H Q E h => ?_) (fun cdv A outer s H vs Q E hr h => ?_)
  · obtain ⟨_, _, _, rfl, _⟩ := h
    rfl
  · obtain ⟨b, c, _, rfl, rfl, q⟩ := h
    refine ⟨_, (pss_one (ps_ret (pe_and (pe_callB call_isi (by rfl) Z_isinstance (by decide +kernel) (pa_cons (pv 0) (pa_cons (pe_bltn (v := .ty "bool") (by rfl) Z_bool (by decide +kernel) rfl) pa_nil))) (pe_one (pe_cmpR (op_eqD hr.units) (pv 0) (pv 1) (nomark _)))))), ?_⟩
    walk_at "go"
    refine x_isiBool (.bl b) ?_
    walk_at "go"
    refine x_T ?_
    walk_at "go"
    exact ⟨_, _, .bl b, .bl c, rfl, rfl, by cases b <;> cases c <;> exact q⟩
theorem ok_l_entry {f : Addr} {fd : FuncData} (F : Fun K "_law_entry" "_law_entry" s_l_entry f fd) (Z_isinstance : mg "isinstance" = none) (Z_tuple : mg "tuple" = none) (Z_str : mg "str" = none) (Z_len : mg "len" = none) (Z_all : mg "all" = none) (Z_list : mg "list" = none) : FnOk P w K mg base CX0 1 f fd ["_law_steps_here", "_law_row"] (spEntryL K) := by
  refine F.ok sc_l_entry (fun vs H Q E h => ?_) (fun cdv A outer s H vs Q E hr h => ?_)
  · obtain ⟨_, _, _, _, rfl, _⟩ := h
    rfl
  · obtain ⟨p, v, ss, en, rfl, hp, hss, hok, hl4, hv, q⟩ := h
    have no : ∀ H', L2.Same H H' → ¬ EnOk ss en → Q (.bl false) H' := fun H' s hn => q H' false s ⟨fun h => (by cases h), fun h => absurd h hn⟩
    refine ⟨_, (pss_cons (ps_if (PW.pt (pw_or (pt_not (pt_val (pe_callB call_isi (by rfl) Z_isinstance (by decide +kernel) (pa_cons (pv 1) (pa_cons (pe_bltn (v := .ty "tuple") (by rfl) Z_tuple (by decide +kernel) rfl) pa_nil))))) (pw_or1 (pt_cmpR op_eq (pe_callB call_lenA (by rfl) Z_len (by decide +kernel) (pa_cons (pv 1) pa_nil)) pe_int (nomark _)))))
      (pss_one (ps_ret pe_bl))
      pss_nil)
      (pss_cons (ps_if (pt_not (pt_val (pe_callB (cr_all rfl) (by rfl) Z_all (by decide +kernel) (pa_cons (pe_lc (own := [("_law_move", 2)]) (g := gName 2) (tt := tYes) (by rfl) sc_l_entry.nd (pi_tup (pv 1)) (blkOk_by (own := [("_law_move", 2)]) (N := N_l_entry) (sc := defScope s_l_entry) (by decide +kernel)) (fun _ _ _ _ _ => (pg_name (i := 2) sc_l_entry.nd rfl (Or.inl rfl))) (fun _ _ _ _ _ => pts_nil) (fun _ _ _ _ _ => by exact (pe_callB (call_isiK (K := K)) (by rfl) Z_isinstance (by decide +kernel) (pa_cons (pv 2) (pa_cons (pe_bltn (v := .ty "str") (by rfl) Z_str (by decide +kernel) rfl) pa_nil))))) pa_nil))))
      (pss_one (ps_ret pe_bl))
      pss_nil)
      (pss_one (ps_ret (pe_cmpR (op_eqD hr.units) (pe_callTy call_listA (by rfl) Z_list (by decide +kernel) (pa_cons (pv 1) pa_nil)) (pe_lc (own := [("_law_step", 3)]) (g := gName 3)  (by rfl) sc_l_entry.nd (pi_list (pv 0)) (blkOk_by (own := [("_law_step", 3)]) (N := N_l_entry) (sc := defScope s_l_entry) (by decide +kernel)) (fun _ _ _ _ _ => (pg_name (i := 3) sc_l_entry.nd rfl (Or.inl rfl))) (fun _ _ _ _ _ => by exact (pts_one (pt_cmpR (op_in_seqK (K := K)) (pv 3) (pv 1) rfl))) (fun _ _ _ _ _ => by exact (pv 3))) (nomark _)))))), ?_⟩
    walk_at "go"
    cases en with
    | no =>
      obtain ⟨k, hk, hkt⟩ := hv
      refine x_isiTup hk ?_
      rw [hkt]
      walk_at "go"
      exact no _ (L2.Same.refl _) id
    | row xs =>
      obtain ⟨r, rfl, hr0, hks, sok, hl⟩ := hv
      have hr := SqT.of (K := K) hr0
      refine x_isiTup (.tup hr) ?_
      walk_at "go"
      refine x_nT ?_
      walk_at "go"
      refine x_lenT hr ?_
      walk_at "go"
      refine x_dec (fun h0 => ?_) (fun h0 => ?_)
      · walk_at "go"
        refine no _ (L2.Same.refl _) fun ⟨rr, e, ne, _⟩ => ne ?_
        have e0 : xs.length = rr.length := by rw [e]; exact List.length_map ..
        exact List.length_eq_zero_iff.mp (by omega)
      walk_at "go"
      refine runT hr ?_
      intro E1 hE1
      refine lcT (xs := xs) (fun i H' => L2.Same H H' ∧ H' E1 = some (.lst (((xs.take i).map isStrB).map V.bl))) ⟨same_new hE1, upd_same⟩ (fun i H' _ h => same_t h.1 hr) ?_ ?_
      · rintro i y H2 hy ⟨s2, h2⟩
        obtain ⟨k, hk⟩ := hks y (List.mem_of_getElem? hy)
        walk_at "go"
        refine ⟨rfl, ?_⟩
        walk_at "go"
        refine x_isiStr (hk.same s2) ?_
        rw [kd_isStr hk]
        refine ⟨_, h2, sz_lt (by rw [List.length_map, List.length_map, List.length_take]; omega), same_upd s2 hE1, ?_⟩
        rw [upd_same, take_succ_get hy]
        simp
      · rintro H2 ⟨s2, h2⟩
        rw [List.take_length] at h2
        refine ⟨E1, _, rfl, SqL.of h2, ?_⟩
        walk_at "go"
        cases ea : (xs.map isStrB).all id with
        | false =>
          refine x_nF ?_
          walk_at "go"
          refine no _ s2 fun ⟨rr, e, _⟩ => ?_
          rw [e] at ea
          have : ∀ l : List Str, ((strsV l).map isStrB).all id = true := fun l => by
            induction l with
            | nil => rfl
            | cons a t ih => exact ih
          rw [this] at ea
          cases ea
        | true =>
          obtain ⟨rr, rfl⟩ := all_strs ea
          have ne : rr ≠ [] := fun e => h0 (by rw [e]; rfl)
          refine x_nT ?_
          walk_at "go"
          refine x_listT (same_t s2 hr) fun L hL => ?_
          have s3 : L2.Same H (upd H2 L (.lst (strsV rr))) := same_upd s2 (s2.free hL)
          have hL3 : (upd H2 L (.lst (strsV rr))) L = some (.lst (strsV rr)) := upd_same
          generalize upd H2 L (.lst (strsV rr)) = H3 at s3 hL3
          walk_at "go"
          refine runL (s3.seq hp) ?_
          intro E2 hE2
          refine lcL (xs := strsV ss) (fun i H' => L2.Same H3 H' ∧ H' E2 = some (.lst (strsV ((ss.take i).filter fun m => decide (m ∈ rr))))) ⟨same_new hE2, by rw [upd_same, List.take_zero]; rfl⟩ (fun i H' _ h => (s3.trans h.1).seq hp) ?_ ?_
          · rintro i y H4 hy ⟨s4, h4⟩
            have hy : (ss.map V.str)[i]? = some y := hy
            rw [List.getElem?_map] at hy
            cases hz : ss[i]? with
            | none => rw [hz] at hy; cases hy
            | some m =>
              rw [hz] at hy
              have ex : V.str m = y := Option.some.inj hy
              subst ex
              have hi := (List.getElem?_eq_some_iff.mp hz).1
              walk_at "go"
              refine ⟨rfl, ?_⟩
              walk_at "go"
              refine x_inTs (ws := rr) (same_t (s3.trans s4) hr) ?_
              walk_at "go"
              refine x_dec (fun hm => ?_) (fun hm => ?_)
              · walk_at "go"
                refine ⟨_, h4, sz_lt (by
                  have := List.length_filter_le (fun m => decide (m ∈ rr)) (ss.take i)
                  rw [List.length_take] at this
                  show (List.map V.str _).length < _
                  rw [List.length_map]
                  omega), same_upd s4 hE2, ?_⟩
                rw [upd_same, take_succ_get hz, List.filter_append, List.filter_cons_of_pos (by simpa using hm), List.filter_nil, strsV_snoc]
              · refine ⟨s4, ?_⟩
                rw [h4, take_succ_get hz, List.filter_append, List.filter_cons_of_neg (by simpa using hm)]
                simp
          · rintro H4 ⟨s4, h4⟩
            have e5 : ss.take (strsV ss).length = ss := by
              show ss.take (ss.map V.str).length = ss
              rw [List.length_map, List.take_length]
            rw [e5] at h4
            refine x_eqLS (xs := rr) (ys := ss.filter fun m => decide (m ∈ rr)) (SqL.of (s4 _ _ hL3)) (SqL.of h4) (fun z hz => sok z (List.mem_map.mpr ⟨z, hz, rfl⟩)) (fun z hz => hok z (List.mem_filter.mp hz).1) ?_
            walk_at "go"
            refine q _ _ (s3.trans s4) ?_
            rw [decide_eq_true_eq, entry_iff hss]
            exact ⟨fun h => ⟨rr, rfl, ne, h.1, h.2⟩, fun ⟨rr', e, _, h1, h2⟩ => by rw [strsV_inj e]; exact ⟨h1, h2⟩⟩
end
/-! ### k69: books judged by the law, the law's run, breaches -/
section
variable {P : Program} {w : World} {K : PySem.W.Frag} {mg : Str → Option Value} {base : Heap}
theorem ok_l_right {f : Addr} {fd : FuncData} (F : Fun K "_law_right" "_law_right" s_l_right f fd) (Z_isinstance : mg "isinstance" = none) (Z_dict : mg "dict" = none) (Z_str : mg "str" = none) (C_l_steps : Cal P w K mg base 1 "_law_steps" ["_law_stands_here", "_law_stand_here"] spStepsC)
    (C_l_entry : Cal P w K mg base 1 "_law_entry" ["_law_steps_here", "_law_row"] (spEntryL K)) : FnOk P w K mg base CX0 2 f fd ["_law_stands_here", "_law_thing"] (spRightL K w) := by
  refine F.ok sc_l_right (fun vs H Q E h => ?_) (fun cdv A outer s H vs Q E hr h => ?_)
  · obtain ⟨_, _, _, _, _, rfl, _⟩ := h
    rfl
  · obtain ⟨D, v, h, l, o, rfl, tD, tb, g, hB, q⟩ := h
    have hu := hu_of hr
    refine ⟨_, (pss_cons (ps_if (pt_not (pt_val (pe_callB call_isiU (by rfl) Z_isinstance (by decide +kernel) (pa_cons (pv 1) (pa_cons (pe_bltn (v := .ty "dict") (by rfl) Z_dict (by decide +kernel) rfl) pa_nil)))))
      (pss_one (ps_ret pe_bl))
      pss_nil)
      (pss_cons (ps_lock (ps_for PassesOwn.never rfl (pi_keysU (pv 1)) (pg_name (i := 2) sc_l_right.nd rfl (Or.inl rfl))
      (pss_cons (ps_if (PW.pt (pw_or (pt_not (pt_val (pe_callB call_isi (by rfl) Z_isinstance (by decide +kernel) (pa_cons (pv 2) (pa_cons (pe_bltn (v := .ty "str") (by rfl) Z_str (by decide +kernel) rfl) pa_nil))))) (pw_or (pt_cmp (pc_dnotin hu (pv 2) (pv 0))) (pw_or1 (pt_cmpR op_ne (pe_ix ix_tup (pe_dget hu (pv 0) (pv 2) (fun _ _ => rfl)) pe_int (fun _ _ => rfl)) pe_str (nomark _))))))
      (pss_one (ps_ret pe_bl))
      pss_nil)
      (pss_one (ps_if (pt_not (pt_val (pe_cal C_l_entry (hr.mono (by decide)) (by rfl) (pa_cons (pe_cal C_l_steps (hr.mono (by decide)) (by rfl) (pa_cons (pv 0) (pa_cons (pv 2) pa_nil))) (pa_cons (pe_mget (hu100 hr) (pv 1) (pv 2) (fun _ _ => rfl)) pa_nil)))))
      (pss_one (ps_ret pe_bl))
      pss_nil)))))
      (pss_one (ps_ret pe_bl)))), ?_⟩
    walk_at "go"
    rcases hB with ⟨rfl, k, hk, hkd⟩ | ⟨B, kvs, ef, rfl, rfl, hX⟩
    · refine x_isiO (x_isiDict hk ?_)
      rw [not_dict hkd]
      walk_at "go"
      exact q _ _ (L2.Same.refl _) ⟨(fun h => by cases h), fun ⟨_, _, e, _⟩ => by cases e⟩
    · have q : ∀ H' b, L2.Same H H' → (b = true ↔ BkOk l kvs ef) → Q (.bl b) H' := fun H' b s e => q H' b s (e.trans ⟨fun h => ⟨_, _, rfl, h⟩, fun ⟨_, _, e, h⟩ => by cases e; exact h⟩)
      refine x_isiMd hX.wr.rd ?_
      walk_at "go"
      refine x_lockM hX.wr fun od u hu0 hmu fz => ?_
      have tw := (tb B (by simp) rfl).same (wo_frz (u := .frz od u))
      refine x_forKU ?_
      walk_at "go"
      refine lpKU (fun i σ H' => ∃ v2, σ = [some (.ref D), some (.ref B), v2] ∧ L2.Same (upd H B (.frz od u)) H' ∧ ∀ p ∈ kvs.take i, PrOk l ef p) fz ?_ ?_ ?_ ?_
      · exact ⟨none, rfl, L2.Same.refl _, by simp⟩
      · exact fun i σ H' _ ⟨_, _, s1, _⟩ => FzM.same s1 fz
      · rintro i ⟨pk, py, pv⟩ σ H2 hi ⟨v2, rfl, s2, hall⟩
        have hm := List.mem_of_getElem? hi
        obtain ⟨hkey, hkd⟩ := hX.ks _ hm
        obtain ⟨n, hn⟩ := keyv_kd hkey
        have hen0 := hX.en _ hm
        dsimp only at hkey hkd hn hen0 ⊢
        have w2 := tw.same s2
        have bad : ∀ H', L2.Same H2 H' → ¬ PrOk l ef (pk, py, pv) → H' B = some (.frz od u) ∧ Q (.bl false) (upd H' B u) := fun H' s' hb =>
          ⟨s' _ _ (s2 _ _ upd_same), q _ false (unlock_s hu0 (s2.trans s')) ⟨(fun h => by cases h), fun h => absurd (h _ hm) hb⟩⟩
        walk_at "go"
        refine x_isiStr ((kd_heldU hu0 hmu hn).same s2) ?_
        by_cases hns : n = .str
        · subst hns
          obtain ⟨z, rfl⟩ : ∃ z, py = .str z := by
            cases hn with
            | str z => exact ⟨z, rfl⟩
          have ek := keyv_str hkey
          subst ek
          obtain ⟨m, hmR, hmk, hmx⟩ := id w2.ex
          walk_at "go"
          refine x_nT ?_
          walk_at "go"
          refine x_ninD (l := m) hmR ?_
          walk_at "go"
          cases em : m.lookup z with
          | none =>
            refine x_nF ?_
            walk_at "go"
            refine bad _ (L2.Same.refl _) fun ⟨z', k, l2, e1, e2, _⟩ => ?_
            cases e1
            obtain ⟨x, hx⟩ := lookup_isSome (l := m) (z := z) (by rw [hmk]; exact List.mem_map.mpr ⟨_, lookup_mem e2, rfl⟩)
            rw [em] at hx
            cases hx
          | some b =>
            obtain ⟨x, hx, hbx⟩ := hmx z b (lookup_mem em)
            have gx := g.sd z _ hx
            refine x_nT ?_
            walk_at "go"
            refine x_getL hmR em ?_
            walk_at "go"
            have nohand : (∀ k l2, x ≠ .hand k l2) → ¬ PrOk l ef (.text z, .str z, pv) := fun hh ⟨z', k, l2, e1, e2, _⟩ => by
              cases e1
              rw [hx] at e2
              cases e2
              exact hh _ _ rfl
            cases x with
            | fin =>
              have hb1 : H2 b = some (.tup [.str "end"]) := hbx
              refine x_ixt 0 (SqT.of hb1) rfl rfl ?_
              walk_at "go"
              refine x_nno (by decide +kernel) ?_
              walk_at "go"
              exact bad _ (L2.Same.refl _) (nohand fun _ _ e => by cases e)
            | chance l2 =>
              obtain ⟨d2, hb1, _⟩ := hbx
              refine x_ixt 0 (SqT.of hb1) rfl rfl ?_
              walk_at "go"
              refine x_nno (by decide +kernel) ?_
              walk_at "go"
              exact bad _ (L2.Same.refl _) (nohand fun _ _ e => by cases e)
            | hand k l2 =>
              obtain ⟨d2, hb1, _⟩ := hbx
              refine x_ixt 0 (SqT.of hb1) rfl rfl ?_
              walk_at "go"
              refine x_nyes rfl ?_
              walk_at "go"
              refine ⟨D, z, l, _, h, _, rfl, w2, hx, gx, fun H3 p3 ss s3 np hp3 pm so => ?_⟩
              walk_at "go"
              refine x_mget ?_
              walk_at "go"
              have hfz3 := FzM.same (s2.trans s3) fz
              have hen := ((hen0.held (o := od) hu0 hmu).same s2).same s3
              have hks3 : KeysOk K H3 kvs := KeysOk.same (s2.trans s3) (hX.ks.via fun _ _ => sqT_heldU hu0 hmu)
              refine x_mgetS (v := pv) ⟨hfz3.rd, hks3⟩ (valM_of hX.nd hm) ?_
              walk_at "go"
              have ssn : ss.Nodup := pm.nodup_iff.mpr gx.2.2.1
              refine ⟨p3, pv, ss, ef pv, rfl, SqL.of hp3, pw_lt (sorted_pw so) ssn, fun m hm => (steps_nm gx m (pm.mem_iff.mp hm)).ok, by rw [pm.length_eq]; exact steps_le gx, hen, fun H4 b s4 hb => ?_⟩
              walk_at "go"
              cases b with
              | false =>
                walk_at "go"
                refine bad _ (s3.trans s4) fun ⟨z', k', l2', e1, e2, e3⟩ => ?_
                cases e1
                rw [hx] at e2
                cases e2
                exact Bool.false_ne_true (hb.mpr (e3.mono fun m hm => pm.mem_iff.mpr hm))
              | true =>
                walk_at "go"
                refine ⟨_, rfl, (s2.trans s3).trans s4, fun p' hp' => ?_⟩
                rw [take_succ_get hi] at hp'
                rcases List.mem_append.mp hp' with hp' | hp'
                · exact hall p' hp'
                · rw [List.mem_singleton.mp hp']
                  exact ⟨z, k, l2, rfl, hx, (hb.mp rfl).mono fun m hm => pm.mem_iff.mp hm⟩
        · rw [not_strK hns]
          walk_at "go"
          refine bad _ (L2.Same.refl _) fun ⟨z', _, _, e1, _⟩ => hns ?_
          have e1 : py = .str z' := e1
          subst e1
          cases hn
          rfl
      · rintro σ H2 ⟨v2, rfl, s2, hall⟩
        refine ⟨s2 B _ upd_same, ?_⟩
        walk_at "go"
        rw [List.take_length] at hall
        exact q _ true (unlock_s hu0 s2) ⟨fun _ => hall, fun _ => rfl⟩
theorem ok_l_breach {f : Addr} {fd : FuncData} (F : Fun K "_law_breach" "_law_breach" s_l_breach f fd) (Z_range : mg "range" = none) (Z_len : mg "len" = none) (C_l_to : Cal P w K mg base 1 "_law_to" ["_law_stands_here", "_law_stand_here", "_law_step"] spToC) (C_l_mover : Cal P w K mg base 1 "_law_mover" ["_law_stands_here", "_law_stand_here"] spMoverL) : FnOk P w K mg base CX0 2 f fd ["_law_stands_here", "_law_book_here", "_law_start", "_law_run_here"] (spBreachL K) := by
  refine F.ok sc_l_breach (fun vs H Q E h => ?_) (fun cdv A outer s H vs Q E hr h => ?_)
  · obtain ⟨_, _, _, _, _, _, _, _, _, rfl, _⟩ := h
    rfl
  · obtain ⟨D, B, R, st, h, l, bk, run, ts, rfl, tb, g, hB, hR, hl, T, hst, q⟩ := h
    have hu := hu_of hr
    have tin := T.mem g hst
    obtain ⟨mb, hBd, hbk, hbx⟩ := id hB.ex
    have rl : (strsV run).length = run.length := List.length_map ..
    refine ⟨_, (pss_cons (ps_set (i := 4) sc_l_breach.nd rfl (Or.inl rfl) (pv 2))
      (pss_cons (ps_for PassesOwn.never rfl (pi_range1 rfl Z_range (pa_cons (pe_callB call_lenA (by rfl) Z_len (by decide +kernel) (pa_cons (pv 3) pa_nil)) pa_nil)) (pg_name (i := 5) sc_l_breach.nd rfl (Or.inl rfl))
      (pss_cons (ps_if (PW.pt (pw_and (pt_cmp (pc_din hu (pv 4) (pv 1))) (pw_and1 (pt_cmpR op_notIn_seq (pe_ix ix_list (pv 3) (pv 5) (fun _ _ => rfl)) (pe_dget hu (pv 1) (pv 4) (fun _ _ => rfl)) rfl))))
      (pss_one (ps_ret (pe_tup (pa_cons (pv 5) (pa_cons (pe_cal C_l_mover (hr.mono (by decide)) (by rfl) (pa_cons (pv 0) (pa_cons (pv 4) pa_nil))) pa_nil)))))
      pss_nil)
      (pss_one (ps_set (i := 4) sc_l_breach.nd rfl (Or.inl rfl) (pe_cal C_l_to (hr.mono (by decide)) (by rfl) (pa_cons (pv 0) (pa_cons (pv 4) (pa_cons (pe_ix ix_list (pv 3) (pv 5) (fun _ _ => rfl)) pa_nil))))))))
      (pss_one (ps_ret pe_non)))), ?_⟩
    walk_at "go"
    refine x_lenL hR ?_
    walk_at "go"
    rw [rl]
    refine lpR (fun i σ H' => ∃ (z : Str) (v5 : Option V), σ = [some (.ref D), some (.ref B), some (.str st), some (.ref R), some (.str z), v5] ∧ L2.Same H H' ∧ ts[i]? = some z ∧ ∀ (j : Nat) y u, j < i → run[j]? = some u → ts[j]? = some y → ¬ Unlet bk y u) ⟨by omega, by omega⟩ ?_ ?_ ?_
    · exact ⟨st, _, rfl, L2.Same.refl _, T.at0, fun j y u hj => by omega⟩
    · rintro i σ H2 hi ⟨z, v5, rfl, s2, hz, hall⟩
      have hi : i < run.length := by omega
      obtain ⟨s0, hs⟩ : ∃ s0, run[i]? = some s0 := ⟨_, List.getElem?_eq_getElem hi⟩
      have hsV : (strsV run)[i]? = some (.str s0) := by
        show (run.map V.str)[i]? = _
        rw [List.getElem?_map, hs]
        rfl
      obtain ⟨x, hx⟩ := lookup_isSome (tin i z hz)
      obtain ⟨t1, ht, htn⟩ := T.step i s0 z hs hz
      have htx : toS x s0 = some t1 := by
        unfold toAt at ht
        rw [hx] at ht
        exact ht
      have hB2 := s2 _ _ hBd
      have go_ : ¬ Unlet bk z s0 → ∀ (j : Nat) y u, j < i + 1 → run[j]? = some u → ts[j]? = some y → ¬ Unlet bk y u := fun hn j y u hj a b => by
        rcases Nat.lt_or_ge j i with c | c
        · exact hall j y u c a b
        · have : j = i := by omega
          subst this
          rw [hs] at a
          rw [hz] at b
          cases a
          cases b
          exact hn
      walk_at "go"
      refine x_inD (l := mb) (.inl hB2) ?_
      walk_at "go"
      cases em : mb.lookup z with
      | none =>
        walk_at "go"
        refine x_F ?_
        walk_at "go"
        refine x_ixl i (s2.seq hR) rfl hsV ?_
        walk_at "go"
        refine ⟨D, z, s0, t1, l, x, rfl, tb.same s2, hx, htx, ?_⟩
        walk_at "go"
        refine ⟨t1, _, rfl, s2, htn, go_ fun ⟨r, hr, _⟩ => ?_⟩
        obtain ⟨b, hb⟩ := lookup_isSome (l := mb) (z := z) (by rw [hbk]; exact List.mem_map.mpr ⟨_, lookup_mem hr, rfl⟩)
        rw [em] at hb
        cases hb
      | some b =>
        obtain ⟨r, hr, hbr⟩ := hbx z b (lookup_mem em)
        have hbr2 : H2 b = some (.tup (strsV r)) := s2 _ _ hbr
        walk_at "go"
        refine x_T ?_
        walk_at "go"
        refine x_ixl i (s2.seq hR) rfl hsV ?_
        walk_at "go"
        refine x_getL (l := mb) (.inl hB2) em ?_
        walk_at "go"
        refine x_ninTs (ws := r) (SqT.of hbr2) ?_
        walk_at "go"
        refine x_ndec (fun hn => ?_) (fun hn => ?_)
        · walk_at "go"
          refine ⟨D, z, l, x, rfl, tb.same s2, hx, ?_⟩
          walk_at "go"
          refine ⟨sz_le (by simp), fun T0 hT0 => ?_⟩
          refine q _ _ (some (i, moverV x)) (same_upd s2 (s2.free hT0)) ⟨⟨z, s0, hs, hz, ⟨r, hr, hn⟩, by unfold moverAt; rw [hx]; rfl⟩, hall⟩ ⟨T0, rfl, upd_same⟩
        · walk_at "go"
          refine x_ixl i (s2.seq hR) rfl hsV ?_
          walk_at "go"
          refine ⟨D, z, s0, t1, l, x, rfl, tb.same s2, hx, htx, ?_⟩
          walk_at "go"
          refine ⟨t1, _, rfl, s2, htn, go_ fun ⟨r', hr', h2⟩ => ?_⟩
          rw [hr] at hr'
          cases hr'
          exact h2 hn
    · rintro σ H2 ⟨z, v5, rfl, s2, hz, hall⟩
      walk_at "go"
      refine q _ _ none s2 (fun j y u a b => hall j y u ?_ a b) rfl
      have := (List.getElem?_eq_some_iff.mp a).1
      omega
end
/-! ### k69: the law's own run -/
theorem steps4 {h : Int} {ns : List Str} {x : Sd} (g : GoodSd h ns x) : (stepsL x).length ≤ 4 := by
  cases x with
  | fin => exact Nat.zero_le _
  | chance l => show (l.map _).length ≤ 4; rw [List.length_map]; exact g.2.2.1
  | hand k l => show (l.map _).length ≤ 4; rw [List.length_map]; exact g.2.2.2.2.1
/-- the last of a list -/
theorem at_last {α : Type} {xs : List α} {v : α} : atI (xs ++ [v]) (-1) = some v := by
  have hl : (xs ++ [v]).length = xs.length + 1 := by simp
  have e : ixN (xs ++ [v]).length (-1) = some xs.length := by
    unfold ixN
    rw [if_neg (by omega), if_pos (by omega)]
    exact congrArg some (by omega)
  unfold atI
  rw [e]
  show (xs ++ [v])[xs.length]? = some v
  simp
def spRunC (K : PySem.W.Frag) : Sp := fun vs H Q _ => ∃ (sc D : Addr) (ns : List Int) (st : Str) (h : Int) (l : List (Str × Sd)), vs = [.ref sc, .ref D, .str st] ∧ SqL K H sc (intsV ns) ∧ ns.length ≤ 63 ∧ TabRd H D l ∧ GoodT h l ∧ st ∈ l.map (·.1) ∧
  ∀ H' p run ts, L2.Same H H' → H p = none → H' p = some (.lst (strsV run)) → run.length ≤ 30 → Trail l st run ts → Q (.ref p) H'
section
variable {P : Program} {w : World} {K : PySem.W.Frag} {mg : Str → Option Value} {base : Heap}
theorem ok_l_run {f : Addr} {fd : FuncData} (F : Fun K "_law_run" "_law_run" s_l_run f fd) (Z_range : mg "range" = none) (Z_len : mg "len" = none) (Z_min : mg "min" = none) (C_l_steps : Cal P w K mg base 1 "_law_steps" ["_law_stands_here", "_law_stand_here"] spStepsC) (C_l_to : Cal P w K mg base 1 "_law_to" ["_law_stands_here", "_law_stand_here", "_law_step"] spToC)
    (C_l_open : Cal P w K mg base 1 "_law_open" ["_law_script", "_law_k"] (spOpen K)) (C_draw : Cal P w K mg base 1 "_law_draw" ["_law_drawer", "_law_many"] spDraw) : FnOk P w K mg base CX0 2 f fd ["_law_script", "_law_stands_here", "_law_start"] (spRunC K) := by
  refine F.ok sc_l_run (fun vs H Q E h => ?_) (fun cdv A outer s H vs Q E hr h => ?_)
  · obtain ⟨_, _, _, _, _, _, rfl, _⟩ := h
    rfl
  · obtain ⟨sc, D, ns, st, h, l, rfl, hsc, hns, tb, g, hst, q⟩ := h
    have hu := hu_of hr
    refine ⟨_, (pss_cons (ps_set (i := 3) sc_l_run.nd rfl (Or.inl rfl) (pe_lst pa_nil))
      (pss_cons (ps_set (i := 4) sc_l_run.nd rfl (Or.inl rfl) (pv 2))
      (pss_cons (ps_for PassesOwn.never rfl (pi_range2 rfl Z_range (pa_cons pe_int (pa_cons (pe_callB (call_min2A rfl) (by rfl) Z_min (by decide +kernel) (pa_cons (pe_callB call_lenA (by rfl) Z_len (by decide +kernel) (pa_cons (pv 0) pa_nil)) (pa_cons pe_int pa_nil))) pa_nil))) (pg_name (i := 5) sc_l_run.nd rfl (Or.inl rfl))
      (pss_cons (ps_set (i := 6) sc_l_run.nd rfl (Or.inl rfl) (pe_cal C_l_steps (hr.mono (by decide)) (by rfl) (pa_cons (pv 1) (pa_cons (pv 4) pa_nil))))
      (pss_one (ps_if (pt_cmpR op_gt (pe_callB call_lenA (by rfl) Z_len (by decide +kernel) (pa_cons (pv 6) pa_nil)) pe_int (nomark _))
      (pss_cons (ps_set (i := 7) sc_l_run.nd rfl (Or.inl rfl) (pe_cal C_l_open (hr.mono (by decide)) (by rfl) (pa_cons (pv 0) (pa_cons (pv 5) pa_nil))))
      (pss_cons (ps_expr (pe_bm PySem.F.plainAttrs_list PySem.F.slot_list_append PySem.F.type_list_append mt_append (pv 3) (pa_cons (pe_ix ix_list (pv 6) (pe_cal C_draw (hr.mono (by decide)) (by rfl) (pa_cons (pv 7) (pa_cons (pe_callB call_lenA (by rfl) Z_len (by decide +kernel) (pa_cons (pv 6) pa_nil)) pa_nil))) (fun _ _ => rfl)) pa_nil)))
      (pss_one (ps_set (i := 4) sc_l_run.nd rfl (Or.inl rfl) (pe_cal C_l_to (hr.mono (by decide)) (by rfl) (pa_cons (pv 1) (pa_cons (pv 4) (pa_cons (pe_ix ix_list (pv 3) (pe_un un_neg pe_int) (fun _ _ => rfl)) pa_nil))))))))
      pss_nil))))
      (pss_one (ps_ret (pv 3)))))), ?_⟩
    walk_at "go"
    refine ⟨sz_le (by simp), fun P0 nP => ?_⟩
    have s1 : L2.Same H (upd H P0 (.lst [])) := same_new nP
    have hP1 : (upd H P0 (.lst [])) P0 = some (.lst []) := upd_same
    generalize upd H P0 (.lst []) = H1 at s1 hP1
    walk_at "go"
    refine x_lenL (s1.seq hsc) ?_
    rw [List.length_map]
    walk_at "go"
    obtain ⟨b, hb, hb1⟩ : ∃ b : Int, b = (if (34 : Int) < (ns.length : Int) then 34 else (ns.length : Int)) ∧ b ≤ 34 ∧ 0 ≤ b := ⟨_, rfl, by split <;> omega, by split <;> omega⟩
    rw [← hb]
    refine lpR2 (fun i σ H' => ∃ (z : Str) (v5 v6 v7 : Option V) (run ts : List Str), σ = [some (.ref sc), some (.ref D), some (.str st), some (.ref P0), some (.str z), v5, v6, v7] ∧ L2.Same H H' ∧ H' P0 = some (.lst (strsV run)) ∧ run.length ≤ i ∧ z ∈ l.map (·.1) ∧ Trail l st run ts ∧ ts[run.length]? = some z) (by omega) ?_ ?_ ?_
    · exact ⟨st, _, _, _, [], [st], rfl, s1, hP1, Nat.le_refl _, hst, Trail.nil l st, rfl⟩
    · rintro i σ H2 hi ⟨z, v5, v6, v7, run, ts, rfl, s2, hP2, hrl, hz, T, hzt⟩
      obtain ⟨sd, hsd⟩ := lookup_isSome hz
      walk_at "go"
      refine ⟨D, z, l, sd, h, _, rfl, tb.same s2, hsd, g.sd z sd hsd, fun H3 p3 ss s3 n3 hp3 pm so => ?_⟩
      walk_at "go"
      have hP3 := s3 _ _ hP2
      have s3 := s2.trans s3
      refine x_dec (fun hl => ?_) (fun hl => ?_)
      · walk_at "go"
        refine ⟨sc, ns, _, rfl, s3.seq hsc, hns, by omega, by omega, fun H4 p4 s4 n4 pl4 => ?_⟩
        have hp4 := s4 _ _ hp3
        have hP4 := s4 _ _ hP3
        have np4 : p3 ≠ p4 := ne_of_none hp3 n4
        have nP4 : P0 ≠ p4 := ne_of_none hP3 n4
        have n4H := s3.free n4
        have s4 := s3.trans s4
        walk_at "go"
        have hss : ss.length ≤ 4 := by rw [pm.length_eq]; exact steps4 (g.sd z sd hsd)
        have hsl : (strsV ss).length = ss.length := by unfold strsV; rw [List.length_map]
        refine ⟨p4, _, rfl, pl4, by omega, by rw [hsl]; omega, fun H5 r b5 _ r0 r1 => ?_⟩
        have hp5 := b5 _ _ hp4 np4
        have hP5 := b5 _ _ hP4 nP4
        have s5 := same_but s4 n4H b5
        obtain ⟨y, hy⟩ : ∃ y, ss[r.toNat]? = some y := ⟨_, List.getElem?_eq_getElem (by omega)⟩
        have hy2 : (strsV ss)[r.toNat]? = some (.str y) := by
          show (ss.map V.str)[r.toNat]? = _
          rw [List.getElem?_map, hy]
          rfl
        obtain ⟨t1, ht1⟩ := toS_some (pm.mem_iff.mp (List.mem_of_getElem? hy))
        have ht : toAt l z y = some t1 := by
          show (l.lookup z).bind (fun x => toS x y) = _
          rw [hsd]
          exact ht1
        walk_at "go"
        refine x_ixl r.toNat (SqL.of hp5) (by omega) hy2 ?_
        walk_at "go"
        refine x_app hP5 (sz_lt (by unfold strsV; rw [List.length_map]; omega)) ?_
        walk_at "go"
        refine x_ixL (SqL.of upd_same) at_last ?_
        walk_at "go"
        refine ⟨D, z, y, t1, l, sd, rfl, tb.same (same_upd s5 nP), hsd, ht1, ?_⟩
        walk_at "go"
        refine ⟨t1, _, _, _, run ++ [y], ts ++ [t1], rfl, same_upd s5 nP, ?_, by rw [List.length_append]; simp; omega, toS_good (g.sd z sd hsd) ht1, T.snoc hzt ht, ?_⟩
        · rw [upd_same]
          exact congrArg (fun z => some (HO.lst z)) (List.map_append (f := V.str) (l₁ := run) (l₂ := [y])).symm
        · rw [List.length_append, show run.length + [y].length = ts.length by rw [T.len]; rfl, List.getElem?_append_right (Nat.le_refl _), Nat.sub_self]
          rfl
      · walk_at "go"
        exact ⟨z, _, _, _, run, ts, rfl, s3, hP3, by omega, hz, T, hzt⟩
    · rintro σ H2 ⟨z, v5, v6, v7, run, ts, rfl, s2, hP2, hrl, hz, T, hzt⟩
      walk_at "go"
      exact q _ P0 run ts s2 nP hP2 (by omega) T
end
/-! ### k69: the first breach, with what is refused; asked -/
/-- what is to come of a thing and a run -/
def AskO (l : List (Str × Sd)) (st : Str) (o : BO) (xs : List V) (k : Str) (i : Int) (oo : Option (Nat × V)) : Prop :=
  (¬ BtOk l o ∧ k = "book" ∧ i = 1 ∧ oo = none) ∨ (BtOk l o ∧ ∃ j : Nat, badI l st xs = some j ∧ k = "run" ∧ i = (j : Int) ∧ oo = none) ∨
  ∃ kvs ef run ts, o = some (kvs, ef) ∧ BkOk l kvs ef ∧ xs = strsV run ∧ Trail l st run ts ∧ k = "told" ∧ i = 0 ∧ Br l (bkO kvs ef) run ts oo
structure Asks (K : PySem.W.Frag) (w : World) (CW : Addr) (H : Hp) (a R : Addr) (v : V) (h : Int) (st : Str) (l : List (Str × Sd)) (o : BO) (xs : List V) : Prop where
  wa : WorkAt CW H a h st l
  wb : ∀ B, o ≠ none → v = .ref B → WorkAt CW (wo H B) a h st l
  g : GoodT h l
  srt : ∀ z x, l.lookup z = some x → SrtSd x
  hst : st ∈ l.map (·.1)
  bt : BT K w H v o
  hR : SqR K H R xs
  len : xs.length ≤ 1000
  kd : ∀ y ∈ xs, ∃ k, Kd K H y k
def spFirstX (K : PySem.W.Frag) (w : World) (CW CK CR : Addr) : Sp := fun vs H Q E => ∃ (a R : Addr) (v : V) (h : Int) (st : Str) (l : List (Str × Sd)) (o : BO) (xs : List V), vs = [.ref a, v, .ref R] ∧ Asks K w CW H a R v h st l o xs ∧
  (¬ BtOk l o → EX E H CK) ∧ (BtOk l o → ∀ j : Nat, badI l st xs = some j → EXF E H CR "index" (.int (j : Int))) ∧
  ∀ H' u oo kvs ef run ts, L2.Same H H' → o = some (kvs, ef) → BkOk l kvs ef → xs = strsV run → Trail l st run ts → Br l (bkO kvs ef) run ts oo → BrAt H' u oo → Q u H'
theorem unlet_iff {l : List (Str × Sd)} {bk : List (Str × List Str)} {z s t : Str} (ht : toAt l z s = some t) : s ∉ letS l bk z ↔ Unlet bk z s := by
  unfold letS Unlet
  cases e : bk.lookup z with
  | some r => exact ⟨fun h => ⟨r, rfl, h⟩, fun ⟨r', e', h⟩ => by cases e'; exact h⟩
  | none =>
    obtain ⟨x, hx, hs⟩ := toAt_some ht
    refine ⟨fun h => absurd ?_ h, fun ⟨_, e', _⟩ => by cases e'⟩
    show s ∈ stepsL ((l.lookup z).getD .fin)
    rw [hx]
    exact toS_mem hs
theorem x_sEnd9 {D : Ends} {σ : L2.St} {H : Hp} {i : Nat} (q : D.nx (σ.set i none) H) : (sEnds i D).nx σ H := q
theorem x_intB {b : Bool} {H : Hp} {Q : VK} (q : Q (.int (if b then 1 else 0)) H) : rIntA [V.bl b] H Q := .inr ⟨b, rfl, q⟩
def spAskedV (K : PySem.W.Frag) (w : World) (CW : Addr) : Sp := fun vs H Q _ => ∃ (a R : Addr) (v : V) (h : Int) (st : Str) (l : List (Str × Sd)) (o : BO) (xs : List V), vs = [.ref a, v, .ref R] ∧ Asks K w CW H a R v h st l o xs ∧
  ∀ H' L T u k i oo, L2.Same H H' → H L = none → H' L = some (.lst [.ref T, u]) → H' T = some (.tup [.str k, .int i]) → BrAt H' u oo → AskO l st o xs k i oo → Q (.ref L) H'
section
variable {P : Program} {w : World} {K : PySem.W.Frag} {mg : Str → Option Value} {base : Heap} {CW CK CR CO : Addr}
theorem ok_first_breach {f : Addr} {fd : FuncData} (F : Fun K "first_breach" "first_breach" s_first_breach f fd) (Z_enumerate : mg "enumerate" = none) (C_is_book : Cal P w K mg base 3 "is_book" ["work", "thing"] (spIsBookX K w CW)) (X_passed : CalX P w K mg base 3 "passed" ["work", "run"] (spPassedX K CW CR)) (X_movers : CalX P w K mg base 4 "movers" ["work", "run"] (spMoversX K CW CR))
    (C_let_steps : Cal P w K mg base 3 "let_steps" ["work", "book", "stand"] (spLetSteps CW)) (E_BadBook : Exc0 K mg "BadBook" CK) : FnOk P w K mg base (L2.CX P w) 5 f fd ["work", "book", "run"] (spFirstX K w CW CK CR) := by
  refine F.okX sc_first_breach (fun vs H Q E h => ?_) (fun cdv A outer s H vs Q E hr h => ?_)
  · obtain ⟨_, _, _, _, _, _, _, _, rfl, _⟩ := h
    rfl
  · obtain ⟨a, R, v, h, st, l, o, xs, rfl, ⟨wa, wb, g, so, hst, bt, hR, hrl, hks⟩, eB, eR, q⟩ := h
    refine ⟨_, (pss_cons (ps_if (pt_not (pt_val (pe_cal C_is_book (hr.mono (by decide)) (by rfl) (pa_cons (pv 0) (pa_cons (pv 1) pa_nil)))))
      (pss_one (ps_raise0 rfl (takes_of rfl rfl rfl rfl) E_BadBook (by rfl)))
      pss_nil)
      (pss_cons (ps_set (i := 3) sc_first_breach.nd rfl (Or.inl rfl) (pe_calX X_passed (hr.mono (by decide)) (by rfl) (takes_of rfl rfl rfl rfl) (pa_cons (pv 0) (pa_cons (pv 2) pa_nil))))
      (pss_cons (ps_set (i := 4) sc_first_breach.nd rfl (Or.inl rfl) (pe_calX X_movers (hr.mono (by decide)) (by rfl) (takes_of rfl rfl rfl rfl) (pa_cons (pv 0) (pa_cons (pv 2) pa_nil))))
      (pss_cons (ps_for (passes_of rfl) rfl (pi_enumT (by rfl) Z_enumerate (pa_cons (pv 2) pa_nil)) (pg_tup rfl (pgs_cons (pg_name (i := 5) sc_first_breach.nd rfl (Or.inl rfl)) (pgs_cons (pg_name (i := 6) sc_first_breach.nd rfl (Or.inl rfl)) pgs_nil)))
      (pss_one (ps_if (pt_cmpR op_notIn_seq (pv 6) (pe_cal C_let_steps (hr.mono (by decide)) (by rfl) (pa_cons (pv 0) (pa_cons (pv 1) (pa_cons (pe_ix ix_list (pv 3) (pv 5) (fun _ _ => rfl)) pa_nil)))) rfl)
      (pss_one (ps_ret (pe_tup (pa_cons (pv 5) (pa_cons (pe_ix ix_list (pv 4) (pv 5) (fun _ _ => rfl)) pa_nil)))))
      pss_nil)))
      (pss_one (ps_ret pe_non)))))), ?_⟩
    walk_at "go"
    refine ⟨a, v, h, st, l, o, rfl, wa, wb, g, so, bt, fun H1 b s1 hb => ?_⟩
    walk_at "go"
    cases b with
    | false =>
      walk_at "go"
      exact x_raise0 (eB (fun h => Bool.false_ne_true (hb.mpr h)) _ s1)
    | true =>
      obtain ⟨kvs, ef, rfl, bo⟩ := hb.mp rfl
      rcases bt with ⟨e, _⟩ | ⟨B, kvs', ef', e, rfl, hX⟩
      · cases e
      cases e
      obtain ⟨hB, nb, bok⟩ := bk_of hX bo
      walk_at "go"
      refine x_callS ?_
      walk_at "go"
      cases hbi : badI l st xs with
      | some j =>
        exact .inr ⟨a, .ref R, h, (j : Int), st, l, rfl, wa.same s1, g, so, hst, .inr ⟨R, xs, j, rfl, SqR.same hR s1, hrl, fun y hy => (hks y hy).elim fun k hk => ⟨k, hk.same s1⟩, hbi, rfl⟩, EXF.same s1 (eR ⟨_, _, rfl, bo⟩ j hbi)⟩
      | none =>
        obtain ⟨run, ts, rfl, T⟩ := run_of hbi
        have rl : (strsV run).length = run.length := List.length_map ..
        have tin := T.mem g hst
        refine .inl ⟨a, R, h, st, l, run, ts, rfl, wa.same s1, g, so, SqR.same hR s1, by omega, T, fun H2 S s2 hS0 hS => ?_⟩
        have s12 := s1.trans s2
        walk_at "go"
        refine x_callS ?_
        walk_at "go"
        refine .inl ⟨a, R, h, st, l, run, ts, rfl, wa.same s12, g, so, SqR.same hR s12, by omega, T, fun H3 M s3 hM0 hM => ?_⟩
        have s13 := s12.trans s3
        have hS3 := s3 _ _ hS
        walk_at "go"
        refine lpE (xs := strsV run) (fun i σ H' => ∃ v5 v6, σ = [some (.ref a), some (.ref B), some (.ref R), some (.ref S), some (.ref M), v5, v6] ∧ L2.Same H3 H' ∧ ∀ (j : Nat) y u, j < i → run[j]? = some u → ts[j]? = some y → ¬ Unlet (bkO kvs ef) y u) ?_ ?_ ?_ ?_
        · exact (SqR.same hR s13).imp (fun r σ H' i _ ⟨_, _, _, s4, _⟩ => s4.seq r) fun r σ H' i _ ⟨_, _, _, s4, _⟩ => same_t s4 r
        · exact ⟨_, _, rfl, L2.Same.refl _, fun j y u hj => by omega⟩
        · rintro i v σ H4 TT hv ⟨v5, v6, rfl, s4, hl⟩ hT
          have hv : (run.map V.str)[i]? = some v := hv
          rw [List.getElem?_map] at hv
          cases hs : run[i]? with
          | none => rw [hs] at hv; cases hv
          | some sp =>
            rw [hs] at hv
            have ex : V.str sp = v := Option.some.inj hv
            subst ex
            have hi : i < run.length := (List.getElem?_eq_some_iff.mp hs).1
            obtain ⟨z, hz⟩ := T.get (i := i) (by omega)
            obtain ⟨x, hx⟩ := lookup_isSome (tin i z hz)
            obtain ⟨t1, ht, _⟩ := T.step i sp z hs hz
            have s5 : L2.Same H3 (upd H4 TT (.tup [.int (i : Nat), .str sp])) := s4.trans (same_new hT)
            refine x_g2 (SqT.of upd_same) ?_
            generalize upd H4 TT (.tup [.int (i : Nat), .str sp]) = H5 at s5 ⊢
            have s15 := s13.trans s5
            walk_at "go"
            refine x_ixl i (SqL.of (s5 _ _ hS3)) rfl (v := .str z) (by rw [List.getElem?_map, hz]; rfl) ?_
            walk_at "go"
            refine ⟨a, B, h, st, z, l, bkO kvs ef, x, rfl, wa.same s15, hx, g.sd z x hx, so z x hx, hB.imp s15 fun _ _ h => s15 _ _ h, fun H6 p s6 hp hp6 => ?_⟩
            refine x_ninL (ws := letS l (bkO kvs ef) z) (SqL.of hp6) ?_
            walk_at "go"
            refine x_ndec (fun hn => ?_) (fun hm => ?_)
            · have hM6 : H6 M = _ := s6 _ _ (s5 _ _ hM)
              walk_at "go"
              refine x_ixl i (SqL.of hM6) rfl (v := moverAt l z) (by rw [List.getElem?_map, List.getElem?_take_of_lt hi, hz]; rfl) ?_
              walk_at "go"
              refine ⟨sz_le (by simp), fun T7 nT7 => ?_⟩
              exact q _ _ (some (i, moverAt l z)) kvs ef run ts ((s15.trans s6).trans (same_new nT7)) rfl bo rfl T ⟨⟨z, sp, hs, hz, (unlet_iff ht).mp hn, rfl⟩, hl⟩ ⟨T7, rfl, upd_same⟩
            · walk_at "go"
              refine ⟨_, _, rfl, s5.trans s6, fun j y u hj g1 g2 => ?_⟩
              rcases Nat.lt_or_ge j i with c | c
              · exact hl j y u c g1 g2
              · have : j = i := by omega
                subst this
                rw [hs] at g1
                rw [hz] at g2
                cases g1
                cases g2
                exact fun hu => (unlet_iff ht).mpr hu hm
        · rintro σ H4 ⟨v5, v6, rfl, s4, hl⟩
          walk_at "go"
          refine q _ _ none kvs ef run ts (s13.trans s4) rfl bo rfl T (fun j y u g1 g2 => hl j y u ?_ g1 g2) rfl
          rw [rl]
          exact (List.getElem?_eq_some_iff.mp g1).1
theorem ok_l_asked {f : Addr} {fd : FuncData} (F : Fun K "_law_asked" "_law_asked" s_l_asked f fd) (Z_isinstance : mg "isinstance" = none) (Z_int : mg "int" = none) (G_BadBook : mg "BadBook" = some (.ref CK)) (G_BadRun : mg "BadRun" = some (.ref CR)) (G_OwnError : mg "OwnError" = some (.ref CO)) (G_idx : ExcG K CR "index")
    (hBB : PySem.W.exmOne K (.ref CK) (.ref CK) = some true) (mRB : PySem.W.exmOne K (.ref CR) (.ref CK) = some false) (hRR : PySem.W.exmOne K (.ref CR) (.ref CR) = some true) (I_BadBook : ExcC K CK) (kBO : PySem.W.kitOne K (.ref CK) (.ref CO) = some true)
    (X_first_breach : CalX P w K mg base 5 "first_breach" ["work", "book", "run"] (spFirstX K w CW CK CR)) : FnOk P w K mg base CX0 6 f fd ["_law_work", "_law_book_here", "_law_run_here"] (spAskedV K w CW) := by
  refine F.ok sc_l_asked (fun vs H Q E h => ?_) (fun cdv A outer s H vs Q E hr h => ?_)
  · obtain ⟨_, _, _, _, _, _, _, _, rfl, _⟩ := h
    rfl
  · obtain ⟨a, R, v, h, st, l, o, xs, rfl, ak, q⟩ := h
    have hu := hu_of hr
    refine ⟨_, (pss_cons (ps_set (i := 3) sc_l_asked.nd rfl (Or.inl rfl) (pe_tup (pa_cons pe_str (pa_cons pe_int pa_nil))))
      (pss_cons (ps_set (i := 4) sc_l_asked.nd rfl (Or.inl rfl) pe_non)
      (pss_cons (ps_tryC sc_l_asked.nd rfl rfl takesN
      (fun W pn xe tk hp => psEq (pss_cons (ps_set (i := 4) sc_l_asked.nd rfl (Or.inl rfl) (pe_calX X_first_breach (hr.mono (by decide)) (by rfl) tk (pa_cons (pv 0) (pa_cons (pv 1) (pa_cons (pv 2) pa_nil)))))
      (pss_one (ps_set (i := 3) sc_l_asked.nd rfl (Or.inl rfl) (pe_tup (pa_cons pe_str (pa_cons pe_int pa_nil)))))))
      (.named (i := 5) rfl rfl ⟨by rfl, by decide, .inl G_BadBook⟩
      (fun a oe cls d pn hz hf hnb => psEq (pss_one (ps_set (i := 3) sc_l_asked.nd rfl (Or.inl rfl) (pe_tup (pa_cons pe_str (pa_cons (pe_callTy call_intA (by rfl) Z_int (by decide +kernel) (pa_cons (pe_callB (call_isX hz hf) (by rfl) Z_isinstance (by decide +kernel) (pa_cons (pv 5) (pa_cons (pe_glob (v := .ref _) (by rfl) G_OwnError rfl) pa_nil))) pa_nil)) pa_nil)))))) (.named (i := 5) rfl rfl ⟨by rfl, by decide, .inl G_BadRun⟩
      (fun a oe cls d pn hz hf hnb => psEq (pss_one (ps_set (i := 3) sc_l_asked.nd rfl (Or.inl rfl) (pe_tup (pa_cons pe_str (pa_cons (pe_byS hz hf (pv 5)) pa_nil)))))) .nil)))
      (pss_one (ps_ret (pe_lst (pa_cons (pv 3) (pa_cons (pv 4) pa_nil)))))))), ?_⟩
    walk_at "go"
    refine ⟨sz_le (by simp), fun T0 hT0 => ?_⟩
    have s1 : L2.Same H (upd H T0 (.tup [.str "none", .int 0])) := same_new hT0
    generalize upd H T0 (.tup [.str "none", .int 0]) = H1 at s1
    walk_at "go"
    refine x_tryC ?_
    walk_at "go"
    refine x_callS ?_
    walk_at "go"
    have fin : ∀ H' T u k i oo, L2.Same H H' → H' T = some (.tup [.str k, .int i]) → BrAt H' u oo → AskO l st o xs k i oo → ∀ L, H' L = none → Q (.ref L) (upd H' L (.lst [.ref T, u])) := fun H' T u k i oo s' hT hb ho L hL =>
      q _ L T u k i oo (s'.trans (same_new hL)) (s'.free hL) upd_same (same_new hL _ _ hT) (hb.same (same_new hL)) ho
    refine ⟨a, R, v, h, st, l, o, xs, rfl, ⟨ak.wa.same s1, fun B eo e => (ak.wb B eo e).same (fun b x e2 => ?_), ak.g, ak.srt, ak.hst, ak.bt.same s1, SqR.same ak.hR s1, ak.len, fun y hy => (ak.kd y hy).elim fun k hk => ⟨k, hk.same s1⟩⟩, fun nb => fun H2 s2 => ?_, fun hb j hj => fun H2 d s2 hd => ?_, fun H2 u oo kvs ef run ts s2 e1 e2 e3 T hbr hba => ?_⟩
    · obtain ⟨e3, e4⟩ := wo_some e2
      rw [wo_ne e4]
      exact s1 _ _ e3
    · have s12 := s1.trans s2
      refine x_hitN hBB (fun ex hex => ?_)
      walk_at "go"
      refine x_isX I_BadBook kBO ?_
      walk_at "go"
      refine x_intB ?_
      walk_at "go"
      refine ⟨sz_le (by simp), fun T2 hT2 => ?_⟩
      walk_at "go"
      refine x_sEnd9 ?_
      walk_at "go"
      refine ⟨sz_le (by simp), fun L hL => ?_⟩
      exact fin _ T2 .non "book" 1 none (s12.trans (same_new hT2)) upd_same rfl (.inl ⟨nb, rfl, rfl, rfl⟩) L hL
    · have s12 := (s1.trans s2).trans (same_new (o := .xd [("index", .int (j : Int))]) hd)
      refine x_missE mRB ?_
      refine x_hitN hRR (fun ex hex => ?_)
      walk_at "go"
      refine x_byV G_idx rfl upd_same ?_
      walk_at "go"
      refine ⟨sz_le (by simp), fun T2 hT2 => ?_⟩
      walk_at "go"
      refine x_sEnd9 ?_
      walk_at "go"
      refine ⟨sz_le (by simp), fun L hL => ?_⟩
      exact fin _ T2 .non "run" (j : Int) none (s12.trans (same_new hT2)) upd_same rfl (.inr (.inl ⟨hb, j, hj, rfl, rfl, rfl⟩)) L hL
    · have s12 := s1.trans s2
      walk_at "go"
      refine ⟨sz_le (by simp), fun T2 hT2 => ?_⟩
      walk_at "go"
      refine ⟨sz_le (by simp), fun L hL => ?_⟩
      exact fin _ T2 u "told" 0 oo (s12.trans (same_new hT2)) upd_same (hba.same (same_new hT2)) (.inr (.inr ⟨kvs, ef, run, ts, e1, e2, e3, T, rfl, rfl, hbr⟩)) L hL
end
/-! ### k69: books spoiled -/
def But2 (p q : Addr) (H H' : Hp) : Prop := ∀ b o, H b = some o → b ≠ p → b ≠ q → H' b = some o
theorem wo2_same {H : Hp} {p q : Addr} : L2.Same (wo (wo H p) q) H := fun b o e => (wo_some (wo_some e).1).1
theorem wo2_upd {H : Hp} {p q : Addr} {o : HO} : L2.Same (wo (wo H p) q) (wo (upd H q o) p) := fun b x e => by
  obtain ⟨e1, n1⟩ := wo_some e
  obtain ⟨e2, n2⟩ := wo_some e1
  rw [wo_ne n2, upd_ne n1]
  exact e2
theorem wo2_but {H H' : Hp} {p q : Addr} (b : But p H H') : L2.Same (wo (wo H p) q) (wo (wo H' p) q) := fun x o e => by
  obtain ⟨e1, n1⟩ := wo_some e
  obtain ⟨e2, n2⟩ := wo_some e1
  rw [wo_ne n1, wo_ne n2]
  exact b _ _ e2 n2
theorem wo2_at {H : Hp} {p q a : Addr} {o : HO} (n1 : a ≠ p) (n2 : a ≠ q) (e : H a = some o) : wo (wo H p) q a = some o := by rw [wo_ne n2, wo_ne n1]; exact e
theorem pool_updN {H : Hp} {p a : Addr} {o : HO} (n : a ≠ p) (h : PoolAt H p) : PoolAt (upd H a o) p := h.upd (Ne.symm n)
theorem mwr_wo {w : World} {H : Hp} {p a : Addr} {kvs : MV} (n : a ≠ p) (h : MWr w H a kvs) : MWr w (wo H p) a kvs := h.imp (fun e => by rw [wo_ne n]; exact e) fun ⟨ks, e, q⟩ => ⟨ks, by rw [wo_ne n]; exact e, q⟩
theorem cut_to2 {xs : List V} {hi : Int} (h0 : 0 ≤ hi) : cutV xs none (some hi) = xs.take hi.toNat := by
  obtain ⟨k, rfl⟩ : ∃ k : Nat, hi = (k : Int) := ⟨hi.toNat, by omega⟩
  unfold cutV
  rw [HT.sIx_nat, HT.sIx_none, Int.toNat_natCast, List.drop_zero, Nat.sub_zero]
  rcases Nat.le_total k xs.length with h | h
  · rw [Nat.min_eq_left h]
  · rw [Nat.min_eq_right h, List.take_of_length_le (Nat.le_refl _), List.take_of_length_le h]
theorem len1 {ss : List Str} {y : V} : (strsV (ss.take 1) ++ [y]).length ≤ 2 := by
  rw [List.length_append]
  show (List.map V.str (ss.take 1)).length + 1 ≤ 2
  rw [List.length_map, List.length_take]
  omega
theorem dep1 (z : Str) : (NestedKey.tup [NestedKey.text z]).depth ≤ 8 := (by decide : (NestedKey.tup [NestedKey.text ("" : Str)]).depth ≤ 8)
def ThB (K : PySem.W.Frag) (w : World) (H : Hp) (B : Addr) (v : V) : Prop := ∃ o, BT K w H v o ∧ (o ≠ none → v = .ref B)
theorem enf {K : PySem.W.Frag} {H : Hp} : ∃ ef : V → En, ∀ v, (∃ e, EnAt K H v e) → EnAt K H v (ef v) := by
  classical
  exact ⟨fun v => if h : ∃ e, EnAt K H v e then h.choose else .no, fun v h => by
    show EnAt K H v (if h : ∃ e, EnAt K H v e then h.choose else En.no)
    rw [dif_pos h]
    exact h.choose_spec⟩
theorem mS_nd {m : List (Str × V)} (nd : (m.map (·.1)).Nodup) : ((mS m).map (·.1)).Nodup := by
  have : (mS m).map (·.1) = (m.map (·.1)).map NestedKey.text := by unfold mS strK; rw [List.map_map, List.map_map, List.map_map]; rfl
  rw [this]
  exact List.Pairwise.map _ (fun a b h e => h (by injection e)) nd
theorem thb_dK {K : PySem.W.Frag} {w : World} {H : Hp} {B : Addr} {m : List (Str × V)} (hB : H B = some (.dK (vK m))) (nd : (m.map (·.1)).Nodup) (hl : m.length ≤ 100) (he : ∀ q ∈ m, ∃ e, EnAt K H q.2 e) : ThB K w H B (.ref B) := by
  obtain ⟨ef, hef⟩ := enf (K := K) (H := H)
  refine ⟨some (mS m, ef), .inr ⟨B, mS m, ef, rfl, rfl, ⟨.inr ⟨_, hB, rfl⟩, keysOk_dK _ _ _, ?_, fun p hp => ?_, by rw [mS_len]; omega, .inl ⟨m, rfl, hB, nd⟩⟩⟩, fun _ => rfl⟩
  · exact mS_nd nd
  · obtain ⟨q, hq, rfl⟩ := mS_mem hp
    exact hef _ (he q hq)
theorem put_in {β : Type} : ∀ {xs : List (NestedKey × β × β)} {k : NestedKey} {y v : β}, valM xs k = none → (k, y, v) ∈ putM xs k y v
  | [], _, _, _, _ => by rw [putM]; exact List.mem_cons_self
  | p :: r, k, y, v, h => by
    rw [valM] at h
    rw [putM]
    by_cases e : p.1 = k
    · rw [if_pos e] at h
      cases h
    · rw [if_neg e] at h ⊢
      exact List.mem_cons_of_mem _ (put_in h)
theorem thb_dM {K : PySem.W.Frag} {w : World} {H : Hp} {B : Addr} {m : List (Str × V)} {k : NestedKey} {y v : V} (hB : H B = some (dM w B (putM (mS m) k y v))) (nd : (m.map (·.1)).Nodup) (hl : m.length ≤ 100) (he : ∀ q ∈ m, ∃ e, EnAt K H q.2 e) (hk : KeyV K H k y) (hd : k.depth ≤ 8) (hy : ∀ z, y ≠ .str z) (hv : ∃ e, EnAt K H v e) : ThB K w H B (.ref B) := by
  obtain ⟨ef, hef⟩ := enf (K := K) (H := H)
  have kn : ∀ z, k ≠ .text z := fun z e => by
    subst e
    cases hk
    exact hy _ rfl
  have hn : valM (mS m) k = none := by
    cases e : valM (mS m) k with
    | none => rfl
    | some u =>
      obtain ⟨p, hp, e1, _⟩ := val_mem e
      obtain ⟨q, _, rfl⟩ := mS_mem hp
      exact absurd e1.symm (kn _)
  refine ⟨some (putM (mS m) k y v, ef), .inr ⟨B, _, ef, rfl, rfl, ⟨.inl hB, fun p hp => ?_, put_nodup (mS_nd nd), fun p hp => ?_, ?_, .inr ⟨_, put_in hn, hy⟩⟩⟩, fun _ => rfl⟩
  · rcases put_mem2 hp with ⟨z, hz, e1, e2, _⟩ | rfl
    · rw [← e1, ← e2]
      exact keysOk_dK _ _ _ z hz
    · exact ⟨hk, hd⟩
  · refine hef _ ?_
    rcases put_mem2 hp with ⟨z, hz, _, _, e | e⟩ | rfl
    · obtain ⟨q, hq, rfl⟩ := mS_mem hz
      rw [e]
      exact he q hq
    · rw [e]; exact hv
    · exact hv
  · have := put_len (xs := mS m) (k := k) (y := y) (v := v)
    rw [mS_len] at this
    omega
theorem thb_kd {K : PySem.W.Frag} {w : World} {H : Hp} {B : Addr} {v : V} {k : Kn} (h : Kd K H v k) (n : k ≠ .dict) : ThB K w H B v := ⟨none, .inl ⟨rfl, k, h, n⟩, fun e => absurd rfl e⟩
theorem en_row {K : PySem.W.Frag} {H : Hp} {a : Addr} {ss : List Str} (h : H a = some (.tup (strsV ss))) (ok : ∀ s ∈ ss, PyData.strOk s = true) (hl : ss.length ≤ 10) : ∃ e, EnAt K H (.ref a) e :=
  ⟨.row (strsV ss), a, rfl, h, fun y hy => by obtain ⟨s, _, rfl⟩ := List.mem_map.mp hy; exact ⟨_, .str s⟩, fun z hz => by obtain ⟨s, hs, e⟩ := List.mem_map.mp hz; cases e; exact ok _ hs, by show (ss.map V.str).length ≤ 10; rw [List.length_map]; exact hl⟩
theorem x_catL9 {H : Hp} {Q : VK} {a b : Addr} {xs ys : List V} (ha : H a = some (.lst xs)) (hb : H b = some (.lst ys)) (hl : xs.length + ys.length ≤ 10000) (q : ∀ p, H p = none → Q (.ref p) (upd H p (.lst (xs ++ ys)))) : rCat (.ref a) (.ref b) H Q :=
  ⟨a, b, xs, ys, rfl, rfl, ha, hb, Nat.le_trans hl (by decide), q⟩
theorem x_mdput {K : PySem.W.Frag} {w : World} {td ty tv : TE} {σ : L2.St} {H : Hp} {n : L2.St → Hp → Prop} {r : VK} {b c : L2.St → Hp → Prop} (h : tv σ H fun v H1 => td σ H1 fun x H2 => ty σ H2 fun y H3 => rDputA x y v H3 (fun H4 => n σ H4) ∨ rMputA K w x y v H3 fun H4 => n σ H4) : sMDPut K w td ty tv ⟨n, r, b, c⟩ σ H := h
theorem x_listItems {te : TE} {σ : L2.St} {H : Hp} {Q : VK} (h : te σ H fun x H1 => LiI.rItemsL x H1 Q) : LiI.tListItems te σ H Q := h
def spSpoilB (K : PySem.W.Frag) (w : World) : Sp := fun vs H Q _ => ∃ (p D B : Addr) (h : Int) (l : List (Str × Sd)) (m : List (Str × V)), vs = [.ref p, .ref D, .ref B] ∧ PoolAt H p ∧ DictOf SdAt (wo (wo H p) B) D l ∧ GoodT h l ∧ l.length ≤ 8 ∧ 1 ≤ l.length ∧ H B = some (.dK (vK m)) ∧ B ≠ p ∧ (m.map (·.1)).Nodup ∧ m.length ≤ 99 ∧
  (∀ q ∈ m, ∃ e, EnAt K (wo (wo H p) B) q.2 e) ∧ ∀ H' v, But2 p B H H' → PoolAt H' p → ThB K w (wo H' p) B v → Q v H'
section
variable {P : Program} {w : World} {K : PySem.W.Frag} {mg : Str → Option Value} {base : Heap}
set_option maxHeartbeats 20000000 in
theorem ok_l_spoiled {f : Addr} {fd : FuncData} (F : Fun K "_law_spoiled" "_law_spoiled" s_l_spoiled f fd) (Z_sorted : mg "sorted" = none) (Z_len : mg "len" = none) (Z_list : mg "list" = none) (Z_tuple : mg "tuple" = none) (C_draw : Cal P w K mg base 1 "_law_draw" ["_law_drawer", "_law_many"] spDraw)
    (C_l_steps : Cal P w K mg base 1 "_law_steps" ["_law_stands_here", "_law_stand_here"] spStepsC) : FnOk P w K mg base CX0 3 f fd ["_law_drawer", "_law_stands_here", "_law_book_here"] (spSpoilB K w) := by
  refine F.ok sc_l_spoiled (fun vs H Q E h => ?_) (fun cdv A outer s H vs Q E hr h => ?_)
  · obtain ⟨_, _, _, _, _, _, rfl, _⟩ := h
    rfl
  · obtain ⟨p, D, B, h, l, m, rfl, hp, hT, g, l8, l1, hB, nBp, mnd, ml, he, q⟩ := h
    have hu := hu_of hr
    have hT0 : DictOf SdAt H D l := hT.same wo2_same
    obtain ⟨mt, hd, hmk, hm⟩ := id hT.ex
    have hD : H D = some (.dK (strK V.ref mt)) := wo2_same _ _ hd
    refine ⟨_, (pss_cons (ps_set (i := 3) sc_l_spoiled.nd rfl (Or.inl rfl) (pe_callB (call_sortedDA rfl) (by rfl) Z_sorted (by decide +kernel) (pa_cons (pv 1) pa_nil)))
      (pss_cons (ps_set (i := 4) sc_l_spoiled.nd rfl (Or.inl rfl) (pe_ix ix_list (pv 3) (pe_cal C_draw (hr.mono (by decide)) (by rfl) (pa_cons (pv 0) (pa_cons (pe_callB call_lenA (by rfl) Z_len (by decide +kernel) (pa_cons (pv 3) pa_nil)) pa_nil))) (fun _ _ => rfl)))
      (pss_cons (ps_set (i := 5) sc_l_spoiled.nd rfl (Or.inl rfl) (pe_cal C_l_steps (hr.mono (by decide)) (by rfl) (pa_cons (pv 1) (pa_cons (pv 4) pa_nil))))
      (pss_cons (ps_set (i := 6) sc_l_spoiled.nd rfl (Or.inl rfl) (pe_cal C_draw (hr.mono (by decide)) (by rfl) (pa_cons (pv 0) (pa_cons pe_int pa_nil))))
      (pss_cons (ps_if (pt_cmpR op_eq (pv 6) pe_int (nomark _))
      (pss_one (ps_mdput (hu100 hr) (pv 2) (pe_ix ix_list (pe_lst (pa_cons pe_str (pa_cons pe_non (pa_cons pe_str (pa_cons (pe_tup (pa_cons (pv 4) pa_nil)) pa_nil))))) (pe_cal C_draw (hr.mono (by decide)) (by rfl) (pa_cons (pv 0) (pa_cons pe_int pa_nil))) (fun _ _ => rfl)) (pe_callTy call_tupleA (by rfl) Z_tuple (by decide +kernel) (pa_cons (pv 5) pa_nil)) rfl))
      pss_nil)
      (pss_cons (ps_if (pt_cmpR op_eq (pv 6) pe_int (nomark _))
      (pss_one (ps_dput hu (pv 2) (pv 4) (pe_callTy call_tupleA (by rfl) Z_tuple (by decide +kernel) (pa_cons (pe_revL (pv 5)) pa_nil)) rfl))
      pss_nil)
      (pss_cons (ps_if (pt_cmpR op_eq (pv 6) pe_int (nomark _))
      (pss_one (ps_dput hu (pv 2) (pv 4) (pe_callTy call_tupleA (by rfl) Z_tuple (by decide +kernel) (pa_cons (pe_op op_cat (pv 5) (pe_slice sl_list (pv 5) po_none (po_some pe_int))) pa_nil)) rfl))
      pss_nil)
      (pss_cons (ps_if (pt_cmpR op_eq (pv 6) pe_int (nomark _))
      (pss_one (ps_dput hu (pv 2) (pv 4) (pe_callTy call_listA (by rfl) Z_list (by decide +kernel) (pa_cons (pv 5) pa_nil)) rfl))
      pss_nil)
      (pss_cons (ps_if (pt_cmpR op_eq (pv 6) pe_int (nomark _))
      (pss_one (ps_dput hu (pv 2) (pv 4) (pe_callTy call_tupleA (by rfl) Z_tuple (by decide +kernel) (pa_cons (pe_slice sl_list (pv 5) po_none (po_some (pe_cal C_draw (hr.mono (by decide)) (by rfl) (pa_cons (pv 0) (pa_cons pe_int pa_nil))))) pa_nil)) rfl))
      pss_nil)
      (pss_cons (ps_if (pt_cmpR op_eq (pv 6) pe_int (nomark _))
      (pss_one (ps_dput hu (pv 2) (pv 4) (pe_callTy call_tupleA (by rfl) Z_tuple (by decide +kernel) (pa_cons (pe_op op_cat (pe_slice sl_list (pv 5) po_none (po_some pe_int)) (pe_lst (pa_cons (pe_ix ix_list (pe_lst (pa_cons pe_str (pa_cons pe_non (pa_cons pe_int (pa_cons pe_str (pa_cons (pe_tup (pa_cons pe_str pa_nil)) pa_nil)))))) (pe_cal C_draw (hr.mono (by decide)) (by rfl) (pa_cons (pv 0) (pa_cons pe_int pa_nil))) (fun _ _ => rfl)) pa_nil))) pa_nil)) rfl))
      pss_nil)
      (pss_cons (ps_if (pt_cmpR op_eq (pv 6) pe_int (nomark _))
      (pss_one (ps_ret (pe_ix ix_list (pe_lst (pa_cons pe_non (pa_cons (pe_lst pa_nil) (pa_cons (pe_tup pa_nil) (pa_cons pe_str (pa_cons pe_int (pa_cons (LiI.pe_listItems (by rfl) (pv 2) (by rfl) Z_list (by decide +kernel)) (pa_cons pe_bl pa_nil)))))))) (pe_cal C_draw (hr.mono (by decide)) (by rfl) (pa_cons (pv 0) (pa_cons pe_int pa_nil))) (fun _ _ => rfl))))
      pss_nil)
      (pss_cons (ps_if (pt_cmpR op_eq (pv 6) pe_int (nomark _))
      (pss_one (ps_dput hu (pv 2) (pv 4) (pe_ix ix_list (pe_lst (pa_cons pe_non (pa_cons pe_str (pa_cons pe_int (pa_cons pe_dnewK (pa_cons (pe_tup pa_nil) pa_nil)))))) (pe_cal C_draw (hr.mono (by decide)) (by rfl) (pa_cons (pv 0) (pa_cons pe_int pa_nil))) (fun _ _ => rfl)) rfl))
      pss_nil)
      (pss_one (ps_ret (pv 2))))))))))))))), ?_⟩
    walk_at "go"
    refine ⟨D, _, mt.map (·.1), rfl, .inl hD, by rw [List.map_map, List.map_map]; rfl, by rw [hmk, List.length_map]; omega, fun ys S hperm hsort nS => ?_⟩
    have nSp : S ≠ p := hp.ne nS
    have b1 : But p H (upd H S (.lst (strsV ys))) := But.of_same (same_new nS)
    have p1 := hp.new (o := .lst (strsV ys)) nS
    have hS1 : (upd H S (.lst (strsV ys))) S = some (.lst (strsV ys)) := upd_same
    generalize upd H S (.lst (strsV ys)) = H1 at b1 p1 hS1
    rw [hmk] at hperm
    have ysl : ys.length = l.length := by rw [hperm.length_eq, List.length_map]
    have yl : (strsV ys).length = ys.length := List.length_map ..
    walk_at "go"
    refine ⟨p, (((strsV ys).length : Nat) : Int), rfl, p1, by omega, by rw [yl]; omega, fun H2 r b2 p2 r0 r1 => ?_⟩
    obtain ⟨z, ho, hz⟩ : ∃ z, (strsV ys)[r.toNat]? = some (.str z) ∧ z ∈ l.map (·.1) := by
      have hlt : r.toNat < ys.length := by omega
      exact ⟨ys[r.toNat], by show (ys.map V.str)[r.toNat]? = _; rw [List.getElem?_map, List.getElem?_eq_getElem hlt]; rfl, hperm.mem_iff.mp (List.getElem_mem hlt)⟩
    refine x_ixl r.toNat (SqL.of (b2 _ _ hS1 nSp)) (by omega) ho ?_
    obtain ⟨x, hx⟩ := lookup_isSome hz
    have gx := g.sd z x hx
    have b12 := b1.trans b2
    have tab2 : TabRd H2 D l := (TabRd.of hT).same ((wo2_but b12).trans wo2_same)
    walk_at "go"
    refine ⟨D, z, l, x, h, _, rfl, tab2, hx, gx, fun H3 p3 ss s3 np hp3 pm so => ?_⟩
    have sl : ss.length ≤ 4 := by rw [pm.length_eq]; exact steps_le gx
    have sok : ∀ m ∈ ss, PyData.strOk m = true := fun m hm => (steps_nm gx m (pm.mem_iff.mp hm)).ok
    have p3p : p3 ≠ p := p2.ne np
    have pp3 := p2.same s3
    walk_at "go"
    refine ⟨p, 8, rfl, pp3, by decide, by decide, fun Hn c b4 pn c0 c1 => ?_⟩
    have bn : But p H Hn := (b12.trans (But.of_same s3)).trans b4
    have hs : Hn p3 = some (.lst (strsV ss)) := b4 _ _ hp3 p3p
    have sV : (strsV ss).length = ss.length := List.length_map ..
    have hBn := bn _ _ hB nBp
    have he_ : ∀ q ∈ m, ∃ e, EnAt K (wo (wo Hn p) B) q.2 e := fun q hq => (he q hq).elim fun e h => ⟨e, h.same (wo2_but bn)⟩
    have np3 : p3 ≠ B := fun e => by rw [e, hBn] at hs; cases hs
    have fin : ∀ H' v, But p Hn H' → PoolAt H' p → (∃ e, EnAt K (wo (wo H' p) B) v e) → Q (.ref B) (upd H' B (.dK (vK (putL m z v)))) := fun H' v b' p' hv => by
      refine q _ _ (fun b o e n1 n2 => by rw [upd_ne n2]; exact b' _ _ (bn _ _ e n1) n1) (pool_updN nBp p') (thb_dK (m := putL m z v) (by rw [wo_ne nBp]; exact upd_same) (putL_nd _ mnd) (Nat.le_trans (putL_len _ _ _) (by omega)) fun q hq => ?_)
      rcases putL_mem hq with rfl | ⟨hq, _⟩
      · exact hv.elim fun e h => ⟨e, h.same wo2_upd⟩
      · exact (he_ q hq).elim fun e h => ⟨e, (h.same (wo2_but b')).same wo2_upd⟩
    have finR : ∀ H' T ss', But p Hn H' → PoolAt H' p → H' T = none → (∀ s ∈ ss', PyData.strOk s = true) → ss'.length ≤ 10 → Q (.ref B) (upd (upd H' T (.tup (strsV ss'))) B (.dK (vK (putL m z (.ref T))))) := fun H' T ss' b' p' nT ok' l' => by
      refine fin _ _ (b'.trans (But.of_same (same_new nT))) (p'.new nT) (en_row (wo2_at (p'.ne nT) ?_ upd_same) ok' l')
      intro e
      rw [e, b' _ _ hBn nBp] at nT
      cases nT
    walk_at "go"
    refine x_dec (fun c1 => ?_) (fun c1 => ?_)
    · walk_at "go"
      refine x_mdput ?_
      walk_at "go"
      refine x_tupL (SqL.of hs) fun T nT => ?_
      have nTp : T ≠ p := pn.ne nT
      have nTB : T ≠ B := fun e => by rw [e, hBn] at nT; cases nT
      have s5 : L2.Same Hn (upd Hn T (.tup (strsV ss))) := same_new nT
      have t5 : (upd Hn T (.tup (strsV ss))) T = some (.tup (strsV ss)) := upd_same
      have p5 := pn.new (o := .tup (strsV ss)) nT
      generalize upd Hn T (.tup (strsV ss)) = H5 at s5 t5 p5
      walk_at "go"
      refine ⟨sz_le (by simp), fun T6 nT6 => ?_⟩
      have nT6p : T6 ≠ p := p5.ne nT6
      have nT6B : T6 ≠ B := fun e => by rw [e, s5 _ _ hBn] at nT6; cases nT6
      have s6 : L2.Same H5 (upd H5 T6 (.tup [.str z])) := same_new nT6
      have t6 : (upd H5 T6 (.tup [.str z])) T6 = some (.tup [.str z]) := upd_same
      have p6 := p5.new (o := .tup [.str z]) nT6
      generalize upd H5 T6 (.tup [.str z]) = H6 at s6 t6 p6
      walk_at "go"
      refine ⟨sz_le (by simp), fun R nR => ?_⟩
      have nRp : R ≠ p := p6.ne nR
      have s7 : L2.Same H6 (upd H6 R (.lst [V.str "zz", V.non, V.str "", V.ref T6])) := same_new nR
      have t7 : (upd H6 R (.lst [V.str "zz", V.non, V.str "", V.ref T6])) R = some (.lst [V.str "zz", V.non, V.str "", V.ref T6]) := upd_same
      have p7 := p6.new (o := .lst [V.str "zz", V.non, V.str "", V.ref T6]) nR
      generalize upd H6 R (.lst [V.str "zz", V.non, V.str "", V.ref T6]) = H7 at s7 t7 p7
      walk_at "go"
      refine ⟨p, 4, rfl, p7, by decide, by decide, fun H8 j b8 p8 j0 j1 => ?_⟩
      have b58 : But p Hn H8 := (But.of_same ((s5.trans s6).trans s7)).trans b8
      have hB8 := b58 _ _ hBn nBp
      have he8 : ∀ q ∈ m, ∃ e, EnAt K (wo (wo H8 p) B) q.2 e := fun q hq => (he_ q hq).elim fun e h => ⟨e, h.same (wo2_but b58)⟩
      have hT8 : wo (wo H8 p) B T = some (.tup (strsV ss)) := wo2_at nTp nTB (b8 _ _ (s7 _ _ (s6 _ _ t5)) nTp)
      have hv8 : ∃ e, EnAt K (wo (wo H8 p) B) (.ref T) e := en_row hT8 sok (by omega)
      have t8 := b8 _ _ t7 nRp
      have outB : ∀ {o : HO}, But2 p B H (upd H8 B o) := fun b o e n1 n2 => by rw [upd_ne n2]; exact b58 _ _ (bn _ _ e n1) n1
      have dk : ∀ y : Str, rDputA (.ref B) (.str y) (.ref T) H8 (fun H4 => H4 = upd H8 B (.dK (vK (putL m y (.ref T))))) := fun y => x_putL (l := m) (f := fun v => v) (x := .ref T) hB8 (by omega) rfl rfl
      have go_ : ∀ H9, (∃ y : Str, H9 = upd H8 B (.dK (vK (putL m y (.ref T))))) ∨ (∃ k y, H9 = upd H8 B (dM w B (putM (mS m) k y (.ref T))) ∧ KeyV K (wo (wo H8 p) B) k y ∧ k.depth ≤ 8 ∧ ∀ z, y ≠ .str z) → Q (.ref B) H9 := fun H9 hc => by
        rcases hc with ⟨y, rfl⟩ | ⟨k, y, rfl, hk, hkd, hy⟩
        · refine q _ _ outB (pool_updN nBp p8) (thb_dK (m := putL m y (.ref T)) (by rw [wo_ne nBp]; exact upd_same) (putL_nd _ mnd) (Nat.le_trans (putL_len _ _ _) (by omega)) fun q hq => ?_)
          rcases putL_mem hq with rfl | ⟨hq, _⟩
          · exact hv8.elim fun e h => ⟨e, h.same wo2_upd⟩
          · exact (he8 q hq).elim fun e h => ⟨e, h.same wo2_upd⟩
        · exact q _ _ outB (pool_updN nBp p8) (thb_dM (m := m) (by rw [wo_ne nBp]; exact upd_same) mnd (by omega) (fun q hq => (he8 q hq).elim fun e h => ⟨e, h.same wo2_upd⟩) (KeyV.same wo2_upd hk) hkd hy (hv8.elim fun e h => ⟨e, h.same wo2_upd⟩))
      have jj : j = 0 ∨ j = 1 ∨ j = 2 ∨ j = 3 := by omega
      have put_ : ∀ y (N : Hp → Prop), (∀ H9, ((∃ y : Str, H9 = upd H8 B (.dK (vK (putL m y (.ref T))))) ∨ (∃ k y, H9 = upd H8 B (dM w B (putM (mS m) k y (.ref T))) ∧ KeyV K (wo (wo H8 p) B) k y ∧ k.depth ≤ 8 ∧ ∀ z, y ≠ .str z)) → N H9) → [V.str "zz", V.non, V.str "", V.ref T6][j.toNat]? = some y →
          rDputA (.ref B) y (.ref T) H8 N ∨ rMputA K w (.ref B) y (.ref T) H8 N := fun y N hN hy => by
        rcases jj with rfl | rfl | rfl | rfl
        · cases hy
          exact .inl (x_putL (l := m) (f := fun v => v) (x := .ref T) hB8 (by omega) rfl (hN _ (.inl ⟨_, rfl⟩)))
        · cases hy
          exact .inr ⟨B, mS m, _, rfl, .inr ⟨_, hB8, rfl⟩, keysOk_dK _ _ _, .non, by decide, sz_lt (by rw [mS_len]; omega), hN _ (.inr ⟨_, _, rfl, .non, by decide, fun z e => by cases e⟩)⟩
        · cases hy
          exact .inl (x_putL (l := m) (f := fun v => v) (x := .ref T) hB8 (by omega) rfl (hN _ (.inl ⟨_, rfl⟩)))
        · cases hy
          have hk : KeyV K (wo (wo H8 p) B) (.tup [.text z]) (.ref T6) := .tup (SqT.of (wo2_at nT6p nT6B (b8 _ _ (s7 _ _ t6) nT6p))) (.cons (.text z) .nil)
          exact .inr ⟨B, mS m, _, rfl, .inr ⟨_, hB8, rfl⟩, keysOk_dK _ _ _, KeyV.same wo2_same hk, dep1 z, sz_lt (by rw [mS_len]; omega), hN _ (.inr ⟨_, _, rfl, hk, dep1 z, fun z e => by cases e⟩)⟩
      obtain ⟨y, hy, _⟩ := pick1 [V.str "zz", V.non, V.str "", V.ref T6] j0 (by simpa using j1)
      refine x_ixl j.toNat (SqL.of t8) (by omega) hy ?_
      refine put_ y _ (fun H9 hc => ?_) hy
      have go9 := go_ H9 hc
      walk_at "go"
      repeat (refine x_dec (fun e => by exfalso; omega) (fun _ => ?_); walk_at "go")
      exact go9
    · walk_at "go"
      refine x_dec (fun c2 => ?_) (fun c2 => ?_)
      · walk_at "go"
        refine x_rev (SqL.of hs) fun L nL => ?_
        walk_at "go"
        rw [show (strsV ss).reverse = strsV ss.reverse from (List.map_reverse ..).symm]
        refine x_tupL (SqL.of upd_same) fun T nT => ?_
        walk_at "go"
        refine x_putL (l := m) (f := fun v => v) (x := .ref T) (same_new nT _ _ (same_new nL _ _ hBn)) (by omega) rfl ?_
        have go9 := finR _ T ss.reverse (But.of_same (same_new nL)) (pn.new nL) nT (fun s hs => sok s (List.mem_reverse.mp hs)) (by rw [List.length_reverse]; omega)
        walk_at "go"
        repeat (refine x_dec (fun e => by exfalso; omega) (fun _ => ?_); walk_at "go")
        exact go9
      · walk_at "go"
        refine x_dec (fun c3 => ?_) (fun c3 => ?_)
        · walk_at "go"
          refine x_slL (SqL.of hs) fun L nL => ?_
          rw [cut_to2 (by decide), ← List.map_take]
          have s5 := same_new (o := .lst (strsV (ss.take 1))) nL
          refine x_catL9 (s5 _ _ hs) upd_same (by rw [sV, List.length_map, List.length_take]; omega) fun C nC => ?_
          walk_at "go"
          rw [show strsV ss ++ List.map V.str (ss.take (1 : Int).toNat) = strsV (ss ++ ss.take 1) from (List.map_append ..).symm]
          refine x_tupL (SqL.of upd_same) fun T nT => ?_
          walk_at "go"
          refine x_putL (l := m) (f := fun v => v) (x := .ref T) (same_new nT _ _ (same_new nC _ _ (s5 _ _ hBn))) (by omega) rfl ?_
          have go9 := finR _ T (ss ++ ss.take 1) ((But.of_same s5).trans (But.of_same (same_new nC))) ((pn.new nL).new nC) nT (fun s hs => (List.mem_append.mp hs).elim (sok s) fun h => sok s (List.mem_of_mem_take h)) (by rw [List.length_append, List.length_take]; omega)
          walk_at "go"
          repeat (refine x_dec (fun e => by exfalso; omega) (fun _ => ?_); walk_at "go")
          exact go9
        · walk_at "go"
          refine x_dec (fun c4 => ?_) (fun c4 => ?_)
          · walk_at "go"
            refine x_listL (SqL.of hs) fun L nL => ?_
            have nLp : L ≠ p := pn.ne nL
            have nLB : L ≠ B := fun e => by rw [e, hBn] at nL; cases nL
            walk_at "go"
            refine x_putL (l := m) (f := fun v => v) (x := .ref L) (same_new nL _ _ hBn) (by omega) rfl ?_
            have go9 := fin (upd Hn L (.lst (strsV ss))) (.ref L) (But.of_same (same_new nL)) (pn.new nL) ⟨.no, _, .lst (SqL.of (wo2_at nLp nLB upd_same)), rfl⟩
            walk_at "go"
            repeat (refine x_dec (fun e => by exfalso; omega) (fun _ => ?_); walk_at "go")
            exact go9
          · walk_at "go"
            refine x_dec (fun c5 => ?_) (fun c5 => ?_)
            · walk_at "go"
              refine ⟨p, 3, rfl, pn, by decide, by decide, fun H5 j b5 p5 j0 j1 => ?_⟩
              walk_at "go"
              refine x_slL (SqL.of (b5 _ _ hs p3p)) fun L nL => ?_
              rw [cut_to2 j0, ← List.map_take]
              walk_at "go"
              refine x_tupL (SqL.of upd_same) fun T nT => ?_
              walk_at "go"
              refine x_putL (l := m) (f := fun v => v) (x := .ref T) (same_new nT _ _ (same_new nL _ _ (b5 _ _ hBn nBp))) (by omega) rfl ?_
              have go9 := finR _ T (ss.take j.toNat) (b5.trans (But.of_same (same_new nL))) (p5.new nL) nT (fun s hs => sok s (List.mem_of_mem_take hs)) (by rw [List.length_take]; omega)
              walk_at "go"
              repeat (refine x_dec (fun e => by exfalso; omega) (fun _ => ?_); walk_at "go")
              exact go9
            · walk_at "go"
              refine x_dec (fun c6 => ?_) (fun c6 => ?_)
              · walk_at "go"
                refine x_slL (SqL.of hs) fun L nL => ?_
                rw [cut_to2 (by decide), ← List.map_take]
                have nLp : L ≠ p := pn.ne nL
                have s5 : L2.Same Hn (upd Hn L (.lst (List.map V.str (ss.take (1 : Int).toNat)))) := same_new nL
                have t5 : (upd Hn L (.lst (List.map V.str (ss.take (1 : Int).toNat)))) L = some (.lst (strsV (ss.take 1))) := upd_same
                have p5 := pn.new (o := .lst (List.map V.str (ss.take (1 : Int).toNat))) nL
                generalize upd Hn L (.lst (List.map V.str (ss.take (1 : Int).toNat))) = H5 at s5 t5 p5
                walk_at "go"
                refine ⟨sz_le (by simp), fun T6 nT6 => ?_⟩
                have nT6p : T6 ≠ p := p5.ne nT6
                have nT6B : T6 ≠ B := fun e => by rw [e, s5 _ _ hBn] at nT6; cases nT6
                have s6 : L2.Same H5 (upd H5 T6 (.tup [.str "go"])) := same_new nT6
                have t6 : (upd H5 T6 (.tup [.str "go"])) T6 = some (.tup [.str "go"]) := upd_same
                have p6 := p5.new (o := .tup [.str "go"]) nT6
                generalize upd H5 T6 (.tup [.str "go"]) = H6 at s6 t6 p6
                walk_at "go"
                refine ⟨sz_le (by simp), fun R nR => ?_⟩
                have nRp : R ≠ p := p6.ne nR
                have s7 : L2.Same H6 (upd H6 R (.lst [V.str "zz8zz", V.non, V.int 0, V.str "", V.ref T6])) := same_new nR
                have t7 : (upd H6 R (.lst [V.str "zz8zz", V.non, V.int 0, V.str "", V.ref T6])) R = some (.lst [V.str "zz8zz", V.non, V.int 0, V.str "", V.ref T6]) := upd_same
                have p7 := p6.new (o := .lst [V.str "zz8zz", V.non, V.int 0, V.str "", V.ref T6]) nR
                generalize upd H6 R (.lst [V.str "zz8zz", V.non, V.int 0, V.str "", V.ref T6]) = H7 at s7 t7 p7
                walk_at "go"
                refine ⟨p, 5, rfl, p7, by decide, by decide, fun H8 j b8 p8 j0 j1 => ?_⟩
                obtain ⟨y, hy, hyin⟩ := pick1 [V.str "zz8zz", V.non, V.int 0, V.str "", V.ref T6] j0 (by simpa using j1)
                refine x_ixl j.toNat (SqL.of (b8 _ _ t7 nRp)) (by omega) hy ?_
                have b58 : But p Hn H8 := (But.of_same ((s5.trans s6).trans s7)).trans b8
                have hL8 : H8 L = some (.lst (strsV (ss.take 1))) := b8 _ _ (s7 _ _ (s6 _ _ t5)) nLp
                have hT8 : wo (wo H8 p) B T6 = some (.tup [.str "go"]) := wo2_at nT6p nT6B (b8 _ _ (s7 _ _ t6) nT6p)
                have ky : (∃ k, Kd K (wo (wo H8 p) B) y k) ∧ ∀ z, y = .str z → PyData.strOk z = true := by
                  simp only [List.mem_cons, List.not_mem_nil, or_false] at hyin
                  rcases hyin with rfl | rfl | rfl | rfl | rfl
                  · exact ⟨⟨_, .str _⟩, fun z e => by cases e; decide +kernel⟩
                  · exact ⟨⟨_, .non⟩, fun z e => by cases e⟩
                  · exact ⟨⟨_, .int _⟩, fun z e => by cases e⟩
                  · exact ⟨⟨_, .str _⟩, fun z e => by cases e; decide +kernel⟩
                  · exact ⟨⟨_, .tup (SqT.of hT8)⟩, fun z e => by cases e⟩
                walk_at "go"
                refine ⟨sz_le (by simp), fun L9 nL9 => ?_⟩
                refine x_catL9 (same_new nL9 _ _ hL8) upd_same (by have := len1 (ss := ss) (y := y); rw [List.length_append] at this; omega) fun C nC => ?_
                walk_at "go"
                refine x_tupL (SqL.of upd_same) fun T nT => ?_
                walk_at "go"
                have s9 := (same_new (o := .lst [y]) nL9).trans ((same_new (o := .lst (strsV (ss.take 1) ++ [y])) nC).trans (same_new (o := .tup (strsV (ss.take 1) ++ [y])) nT))
                refine x_putL (l := m) (f := fun v => v) (x := .ref T) (s9 _ _ (b58 _ _ hBn nBp)) (by omega) rfl ?_
                have go9 := fin _ (.ref T) (b58.trans (But.of_same s9)) (p8.same s9) ⟨.row (strsV (ss.take 1) ++ [y]), T, rfl, wo2_at ((p8.new nL9).new nC |>.ne nT) (ne_of_none (((same_new (o := .lst [y]) nL9).trans (same_new (o := .lst (strsV (ss.take 1) ++ [y])) nC)) _ _ (b58 _ _ hBn nBp)) nT).symm upd_same, fun u hu => by
                  rcases List.mem_append.mp hu with hu | hu
                  · obtain ⟨s, _, rfl⟩ := List.mem_map.mp hu
                    exact ⟨_, .str s⟩
                  · rw [List.mem_singleton.mp hu]
                    exact ky.1.elim fun k h => ⟨k, h.same (wo2_but (But.of_same s9))⟩, fun z hz => by
                  rcases List.mem_append.mp hz with hz | hz
                  · obtain ⟨s, hs, e⟩ := List.mem_map.mp hz
                    cases e
                    exact sok _ (List.mem_of_mem_take hs)
                  · exact ky.2 z (List.mem_singleton.mp hz).symm, Nat.le_trans len1 (by decide)⟩
                walk_at "go"
                repeat (refine x_dec (fun e => by exfalso; omega) (fun _ => ?_); walk_at "go")
                exact go9
              · walk_at "go"
                refine x_dec (fun c7 => ?_) (fun c7 => ?_)
                · walk_at "go"
                  refine ⟨sz_le (by simp), fun L0 nL => ?_⟩
                  have s4 : L2.Same Hn (upd Hn L0 (.lst [])) := same_new nL
                  have t4 : (upd Hn L0 (.lst [])) L0 = some (.lst []) := upd_same
                  have p4 := pn.new (o := .lst []) nL
                  have nLp : L0 ≠ p := pn.ne nL
                  generalize upd Hn L0 (.lst []) = H4 at s4 t4 p4
                  walk_at "go"
                  refine ⟨sz_le (by simp), fun T0 nT => ?_⟩
                  have s5 : L2.Same H4 (upd H4 T0 (.tup [])) := same_new nT
                  have t5 : (upd H4 T0 (.tup [])) T0 = some (.tup []) := upd_same
                  have p5 := p4.new (o := .tup []) nT
                  have nTp : T0 ≠ p := p4.ne nT
                  generalize upd H4 T0 (.tup []) = H5 at s5 t5 p5
                  have hB5 := s5 _ _ (s4 _ _ hBn)
                  walk_at "go"
                  refine x_listItems ?_
                  walk_at "go"
                  refine ⟨B, vK m, rfl, hB5, fun H6 I6 ts s6 nI nts nIts hI6 pr => ?_⟩
                  have s6 : L2.Same H5 H6 := s6
                  have p6 : PoolAt H6 p := p5.same s6
                  have nIp : I6 ≠ p := p5.ne nI
                  walk_at "go"
                  refine ⟨sz_le (by simp), fun R nR => ?_⟩
                  have s8 : L2.Same H6 (upd H6 R (.lst [V.non, V.ref L0, V.ref T0, V.str "a", V.int 0, V.ref I6, V.bl true])) := same_new nR
                  have t8 : (upd H6 R (.lst [V.non, V.ref L0, V.ref T0, V.str "a", V.int 0, V.ref I6, V.bl true])) R = some (.lst [V.non, V.ref L0, V.ref T0, V.str "a", V.int 0, V.ref I6, V.bl true]) := upd_same
                  have p8 := p6.new (o := .lst [V.non, V.ref L0, V.ref T0, V.str "a", V.int 0, V.ref I6, V.bl true]) nR
                  have nRp : R ≠ p := p6.ne nR
                  generalize upd H6 R (.lst [V.non, V.ref L0, V.ref T0, V.str "a", V.int 0, V.ref I6, V.bl true]) = H8 at s8 t8 p8
                  walk_at "go"
                  refine ⟨p, 7, rfl, p8, by decide, by decide, fun H9 j b9 p9 j0 j1 => ?_⟩
                  have at9 : ∀ {a : Addr} {o : HO}, a ≠ p → H8 a = some o → wo H9 p a = some o := fun n e => by rw [wo_ne n]; exact b9 _ _ e n
                  have f0 := at9 nLp (s8 _ _ (s6 _ _ (s5 _ _ t4)))
                  have f1 := at9 nTp (s8 _ _ (s6 _ _ t5))
                  have f2 := at9 nIp (s8 _ _ hI6)
                  obtain ⟨y, hy, hyin⟩ := pick1 [V.non, V.ref L0, V.ref T0, V.str "a", V.int 0, V.ref I6, V.bl true] j0 (by simpa using j1)
                  refine x_ixl j.toNat (SqL.of (b9 _ _ t8 nRp)) (by omega) hy ?_
                  walk_at "go"
                  have b49 : But p Hn H9 := (But.of_same ((s4.trans s5).trans (s6.trans s8))).trans b9
                  refine q _ _ (fun b o e n1 _ => b49 _ _ (bn _ _ e n1) n1) p9 ?_
                  simp only [List.mem_cons, List.not_mem_nil, or_false] at hyin
                  rcases hyin with rfl | rfl | rfl | rfl | rfl | rfl | rfl
                  · exact thb_kd .non (by decide)
                  · exact thb_kd (.lst (SqL.of f0)) (by decide)
                  · exact thb_kd (.tup (SqT.of f1)) (by decide)
                  · exact thb_kd (.str _) (by decide)
                  · exact thb_kd (.int _) (by decide)
                  · exact thb_kd (.lst (SqL.of f2)) (by decide)
                  · exact thb_kd (.bl _) (by decide)
                · walk_at "go"
                  refine x_dec (fun c8 => ?_) (fun c8 => by exfalso; omega)
                  walk_at "go"
                  intro D0 nD
                  have s4 : L2.Same Hn (upd Hn D0 (.dK [])) := same_new nD
                  have t4 : (upd Hn D0 (.dK [])) D0 = some (.dK []) := upd_same
                  have p4 := pn.new (o := .dK []) nD
                  have nDp : D0 ≠ p := pn.ne nD
                  have nDB : D0 ≠ B := fun e => by rw [e, hBn] at nD; cases nD
                  generalize upd Hn D0 (.dK []) = H4 at s4 t4 p4
                  walk_at "go"
                  refine ⟨sz_le (by simp), fun T0 nT => ?_⟩
                  have nTp : T0 ≠ p := p4.ne nT
                  have nTB : T0 ≠ B := fun e => by rw [e, s4 _ _ hBn] at nT; cases nT
                  have s5 : L2.Same H4 (upd H4 T0 (.tup [])) := same_new nT
                  have t5 : (upd H4 T0 (.tup [])) T0 = some (.tup (strsV [])) := upd_same
                  have p5 := p4.new (o := .tup []) nT
                  generalize upd H4 T0 (.tup []) = H5 at s5 t5 p5
                  walk_at "go"
                  refine ⟨sz_le (by simp), fun R nR => ?_⟩
                  have nRp : R ≠ p := p5.ne nR
                  have s8 : L2.Same H5 (upd H5 R (.lst [V.non, V.str "go", V.int 0, V.ref D0, V.ref T0])) := same_new nR
                  have t8 : (upd H5 R (.lst [V.non, V.str "go", V.int 0, V.ref D0, V.ref T0])) R = some (.lst [V.non, V.str "go", V.int 0, V.ref D0, V.ref T0]) := upd_same
                  have p8 := p5.new (o := .lst [V.non, V.str "go", V.int 0, V.ref D0, V.ref T0]) nR
                  generalize upd H5 R (.lst [V.non, V.str "go", V.int 0, V.ref D0, V.ref T0]) = H8 at s8 t8 p8
                  walk_at "go"
                  refine ⟨p, 5, rfl, p8, by decide, by decide, fun H9 j b9 p9 j0 j1 => ?_⟩
                  obtain ⟨y, hy, hyin⟩ := pick1 [V.non, V.str "go", V.int 0, V.ref D0, V.ref T0] j0 (by simpa using j1)
                  refine x_ixl j.toNat (SqL.of (b9 _ _ t8 nRp)) (by omega) hy ?_
                  have b49 : But p Hn H9 := (But.of_same (s4.trans (s5.trans s8))).trans b9
                  have f0 : wo (wo H9 p) B D0 = some (.dK []) := wo2_at nDp nDB (b9 _ _ (s8 _ _ (s5 _ _ t4)) nDp)
                  have f1 : wo (wo H9 p) B T0 = some (.tup (strsV [])) := wo2_at nTp nTB (b9 _ _ (s8 _ _ t5) nTp)
                  walk_at "go"
                  refine x_putL (l := m) (f := fun v => v) (x := y) (b49 _ _ hBn nBp) (by omega) rfl ?_
                  have go9 := fin H9 y b49 p9 (by
                    simp only [List.mem_cons, List.not_mem_nil, or_false] at hyin
                    rcases hyin with rfl | rfl | rfl | rfl | rfl
                    · exact ⟨.no, _, .non, rfl⟩
                    · exact ⟨.no, _, .str _, rfl⟩
                    · exact ⟨.no, _, .int _, rfl⟩
                    · exact ⟨.no, _, .dict (.inl f0), rfl⟩
                    · exact en_row f1 (fun s hs => by cases hs) (by decide))
                  walk_at "go"
                  exact go9
end
/-! ### k69: the law -/
def spLaw (K : PySem.W.Frag) : Sp := fun vs H Q _ => ∃ (a : Addr) (ns : List Int), vs = [.ref a] ∧ SqL K H a (intsV ns) ∧ ns.length ≤ 63 ∧ ∀ H', Q (.bl true) H'
theorem x_asgL {te : TE} {K : PySem.W.Frag} {k : Nat} {gs : TGs} {σ : L2.St} {H : Hp} {n : L2.St → Hp → Prop} {r : VK} {b c : L2.St → Hp → Prop} (h : te σ H fun v H1 => gLst K k gs v σ H1 n) : tAsg te (gLst K k gs) ⟨n, r, b, c⟩ σ H := h
theorem x_gl3 {K : PySem.W.Frag} {σ : L2.St} {H : Hp} {T : Addr} {v w u : V} {i j k : Nat} {N : L2.St → Hp → Prop} (ht : SqL K H T [v, w, u]) (h : N (((σ.set i (some v)).set j (some w)).set k (some u)) H) : gLst K 3 (gCons (gName i) (gCons (gName j) (gCons (gName k) gNil))) (.ref T) σ H N :=
  ⟨T, [v, w, u], rfl, ht, rfl, v, [w, u], rfl, w, [u], rfl, u, [], rfl, rfl, h⟩
theorem same_woN {H H' : Hp} {p : Addr} (s : L2.Same H H') (h : H p = none) : L2.Same H (wo H' p) := fun b o e => by
  have n : b ≠ p := fun q => by rw [q, h] at e; cases e
  rw [wo_ne n]
  exact s b o e
theorem tab_woL {H : Hp} {D t : Addr} {xs : List V} {l : List (Str × Sd)} {h : Int} (hd : H D = some (.lst xs)) (hT : DictOf SdAt H t l) (hg : GoodT h l) : DictOf SdAt (wo H D) t l := by
  obtain ⟨m, h1, h2, h3⟩ := hT.ex
  have n1 : t ≠ D := ne_of h1 hd (by intro z; cases z)
  refine ⟨m, by rw [wo_ne n1]; exact h1, h2, fun z a hza => ?_⟩
  obtain ⟨x, hx, hs⟩ := h3 _ _ hza
  refine ⟨x, hx, sd_wo (fun xs e => ?_) (fun l hl e => ?_) (fun l hl hD => ?_) hs (hg.sd z x hx)⟩
  · rw [hd] at e
    cases e
  · rw [hd] at e
    cases e
  · obtain ⟨m2, g1, _⟩ := hD.ex
    rw [hd] at g1
    cases g1
theorem work_woL {C : Addr} {H : Hp} {D a : Addr} {xs : List V} {st : Str} {l : List (Str × Sd)} {h h2 : Int} (hd : H D = some (.lst xs)) (w : WorkAt C H a h st l) (g : GoodT h2 l) : WorkAt C (wo H D) a h st l := by
  obtain ⟨dx, t, n, e, h1, h2, h3, h4⟩ := w.ex
  exact ⟨dx, t, n, e, by rw [wo_ne (ne_of h1 hd (by intro z; cases z))]; exact h1, tab_woL hd h2 g, by rw [wo_ne (ne_of h3 hd (by intro z; cases z))]; exact h3, by rw [wo_ne (ne_of h4 hd (by intro z; cases z))]; exact h4⟩
theorem x_slots {t : TS} {D : Ends} {σ σ' : L2.St} {H : Hp} (e : σ = σ') (q : t D σ' H) : t D σ H := by
  rw [e]
  exact q
theorem pool_l {H : Hp} {p : Addr} (h : PoolAt H p) : ∃ xs, H p = some (.lst xs) := by
  obtain ⟨_, _, _, _, e⟩ := h
  exact ⟨_, e⟩
theorem same_but {H H' H'' : Hp} {p : Addr} (s : L2.Same H H') (hp : H p = none) (b : But p H' H'') : L2.Same H H'' := fun x o e => b _ _ (s _ _ e) (ne_of_none e hp)
theorem but_wo' {p : Addr} {H H' : Hp} (b : But p H H') : L2.Same (wo H p) (wo H' p) := fun a o e => by
  obtain ⟨e1, n⟩ := wo_some e
  rw [wo_ne n]
  exact b _ _ e1 n
/-- a right book, all that is to be told of it -/
theorem right_bt {K : PySem.W.Frag} {w : World} {H : Hp} {B : Addr} {bk : List (Str × List Str)} {h : Int} {l : List (Str × Sd)} (hB : DictOf RwAt H B bk) (nb : (bk.map (·.1)).Nodup) (ok : BookOk l bk) (g : GoodT h l) (l8 : l.length ≤ 8) :
    ∃ m : List (Str × V), H B = some (.dK (vK m)) ∧ (m.map (·.1)).Nodup ∧ m.length ≤ 8 ∧ (∀ q ∈ m, NameS q.1 ∧ ∃ a rr, q.2 = .ref a ∧ H a = some (.tup (strsV rr)) ∧ (∀ s ∈ rr, NameS s) ∧ rr.length ≤ 4) ∧
      BT K w H (.ref B) (some (mS m, fun v => .row (match v with | .ref a => (match H a with | some (.tup xs) => xs | _ => []) | _ => []))) ∧ BkOk l (mS m) (fun v => .row (match v with | .ref a => (match H a with | some (.tup xs) => xs | _ => []) | _ => [])) := by
  obtain ⟨m0, h1, h2, h3⟩ := hB.ex
  have row : ∀ q ∈ m0, ∃ rr k l2, H q.2 = some (.tup (strsV rr)) ∧ l.lookup q.1 = some (.hand k l2) ∧ RowOk (.hand k l2) rr := fun q hq => by
    obtain ⟨rr, e1, e2⟩ := h3 q.1 q.2 hq
    obtain ⟨k, l2, e3, e4⟩ := ok (q.1, rr) (lookup_mem e1)
    exact ⟨rr, k, l2, e2, e3, e4⟩
  have e0 : strK V.ref m0 = vK (m0.map fun q => (q.1, V.ref q.2)) := by
    show List.map _ m0 = List.map _ (List.map _ m0)
    rw [List.map_map]
    rfl
  have ks : (m0.map fun q => (q.1, V.ref q.2)).map (·.1) = bk.map (·.1) := by rw [List.map_map, ← h2]; rfl
  have nd : ((m0.map fun q => (q.1, V.ref q.2)).map (·.1)).Nodup := by rw [ks]; exact nb
  have hl : (m0.map fun q => (q.1, V.ref q.2)).length ≤ 8 := by
    have := List.Nodup.length_le_of_subset nd (l₂ := l.map (·.1)) fun z hz => by
      rw [ks] at hz
      obtain ⟨q, hq, rfl⟩ := List.mem_map.mp hz
      obtain ⟨_, _, hx, _⟩ := ok q hq
      exact List.mem_map.mpr ⟨_, lookup_mem hx, rfl⟩
    simp only [List.length_map] at this ⊢
    omega
  refine ⟨_, by rw [h1, e0], nd, hl, fun q hq => ?_, .inr ⟨B, _, _, rfl, rfl, .inr ⟨_, by rw [h1, e0], rfl⟩, keysOk_dK _ _ _, mS_nd nd, fun p hp => ?_, by rw [mS_len]; omega, .inl ⟨_, rfl, by rw [h1, e0], nd⟩⟩, fun p hp => ?_⟩
  · obtain ⟨q0, hq0, rfl⟩ := List.mem_map.mp hq
    obtain ⟨rr, k, l2, e1, e2, e3⟩ := row q0 hq0
    have gx := g.sd _ _ e2
    exact ⟨g.nm _ (List.mem_map.mpr ⟨_, lookup_mem e2, rfl⟩), q0.2, rr, rfl, e1, fun s hs => steps_nm gx s (e3.sub s hs), rowok_sub gx e3⟩
  · obtain ⟨q, hq, rfl⟩ := mS_mem hp
    obtain ⟨q0, hq0, rfl⟩ := List.mem_map.mp hq
    obtain ⟨rr, k, l2, e1, e2, e3⟩ := row q0 hq0
    have gx := g.sd _ _ e2
    show EnAt K H (.ref q0.2) (.row (match H q0.2 with | some (.tup xs) => xs | _ => []))
    rw [e1]
    exact ⟨q0.2, rfl, e1, fun y hy => by obtain ⟨s, _, rfl⟩ := List.mem_map.mp hy; exact ⟨_, .str s⟩, fun z hz => by obtain ⟨s, hs, e⟩ := List.mem_map.mp hz; cases e; exact (steps_nm gx _ (e3.sub _ hs)).ok, by have := rowok_sub gx e3; show (rr.map V.str).length ≤ 10; rw [List.length_map]; omega⟩
  · obtain ⟨q, hq, rfl⟩ := mS_mem hp
    obtain ⟨q0, hq0, rfl⟩ := List.mem_map.mp hq
    obtain ⟨rr, k, l2, e1, e2, e3⟩ := row q0 hq0
    refine ⟨q0.1, k, l2, rfl, e2, ?_⟩
    show EnOk _ (.row (match H q0.2 with | some (.tup xs) => xs | _ => []))
    rw [e1]
    exact ⟨rr, rfl, e3.ne, e3.sub, pw_lt e3.asc e3.nd⟩
theorem two_shU {w : World} {H : Hp} {L : Addr} {x y : V} {n B : Nat} (hL : H L = some (.lst [x, y])) (hx : Sml w H n B x) (hy : Sml w H n B y) : ∃ dx dy, ShU w H x dx ∧ ShU w H y dy ∧ (PyData.list [dx, dy]).showable = true ∧ (PyData.list [dx, dy]).depth ≤ n + 1 ∧ (PyData.list [dx, dy]).shown.length ≤ 2 * (B + 2) + 3 := by
  obtain ⟨d, sh, c1, c2, c3⟩ := sml_row (w := w) (n := n) (B := B) (xs := [x, y]) (.inl (.inl hL)) (fun z hz => by
    rcases List.mem_cons.mp hz with rfl | hz
    · exact hx
    · rw [List.mem_singleton.mp hz]; exact hy)
  generalize hv : V.ref L = v at sh
  cases sh with
  | lst h a =>
    cases hv
    rcases h with h | ⟨_, h⟩ <;> rw [hL] at h <;> cases h
    cases a with
    | cons a1 a =>
      cases a with
      | cons a2 a =>
        cases a
        exact ⟨_, _, a1, a2, c1, c2, c3⟩
  | tup h _ => cases hv; rw [hL] at h; cases h
  | dM h _ _ => cases hv; rcases h with (h | ⟨_, h⟩) | ⟨_, (h | ⟨_, h⟩), _⟩ <;> rw [hL] at h <;> cases h
  | _ => cases hv
theorem trail_one {l : List (Str × Sd)} {st : Str} {run ts ts' : List Str} (T : Trail l st run ts) (T' : Trail l st run ts') : ts = ts' := by
  have go : ∀ i, i ≤ run.length → ts[i]? = ts'[i]? := fun i => by
    induction i with
    | zero => exact fun _ => by rw [T.at0, T'.at0]
    | succ i ih =>
      intro hi
      have e := ih (by omega)
      obtain ⟨s, hs⟩ : ∃ s, run[i]? = some s := ⟨_, List.getElem?_eq_getElem (by omega)⟩
      obtain ⟨z, hz⟩ := T.get (i := i) (by omega)
      obtain ⟨t, h1, h2⟩ := T.step i s z hs hz
      obtain ⟨t', h3, h4⟩ := T'.step i s z hs (by rw [← e]; exact hz)
      rw [h1] at h3
      cases h3
      rw [h2, h4]
  refine List.ext_getElem? fun i => ?_
  rcases Nat.lt_or_ge run.length i with h | h
  · rw [List.getElem?_eq_none (by rw [T.len]; omega), List.getElem?_eq_none (by rw [T'.len]; omega)]
  · exact go i h
theorem br_sort {l lw : List (Str × Sd)} {bk : List (Str × List Str)} {run ts : List Str} {o : Option (Nat × V)} (T : TabSort l lw) (hin : ∀ (i : Nat) z, ts[i]? = some z → z ∈ l.map (·.1)) (b : Br lw bk run ts o) : Br l bk run ts o := by
  cases o with
  | none => exact b
  | some q =>
    obtain ⟨⟨z, s, a, c, d, e⟩, f⟩ := b
    refine ⟨⟨z, s, a, c, d, ?_⟩, f⟩
    obtain ⟨x, hx⟩ := lookup_isSome (hin _ z c)
    obtain ⟨x', hx', hs⟩ := tab_look T hx
    rw [e]
    unfold moverAt
    rw [hx, hx']
    exact sort_mvV hs
theorem bad_none {l : List (Str × Sd)} {st : Str} {run ts : List Str} (T : Trail l st run ts) : badI l st (strsV run) = none := by
  have : ∀ i, i ≤ run.length → ∃ z, ts[i]? = some z ∧ BiAt l st (strsV run) i z := fun i => by
    induction i with
    | zero => exact fun _ => ⟨st, T.at0, .zero⟩
    | succ i ih =>
      intro hi
      obtain ⟨z, hz, b⟩ := ih (by omega)
      obtain ⟨s, hs⟩ : ∃ s, run[i]? = some s := ⟨_, List.getElem?_eq_getElem (by omega)⟩
      obtain ⟨t, h1, h2⟩ := T.step i s z hs hz
      exact ⟨t, h2, b.step (y := .str s) (by show (run.map V.str)[i]? = _; rw [List.getElem?_map, hs]; rfl) h1⟩
  obtain ⟨z, _, b⟩ := this run.length (Nat.le_refl _)
  refine BiAt.done (z := z) ?_
  rw [show (strsV run).length = run.length from List.length_map ..]
  exact b
theorem asko_book {l : List (Str × Sd)} {st : Str} {o : BO} {xs : List V} {k : Str} {i : Int} {oo : Option (Nat × V)} (n : ¬ BtOk l o) (a : AskO l st o xs k i oo) : k = "book" ∧ i = 1 ∧ oo = none := by
  rcases a with ⟨_, a⟩ | ⟨b, _⟩ | ⟨kvs, ef, _, _, e, b, _⟩
  · exact a
  · exact absurd b n
  · exact absurd ⟨kvs, ef, e, b⟩ n
theorem asko_run {l : List (Str × Sd)} {st : Str} {o : BO} {xs : List V} {k : Str} {i : Int} {oo : Option (Nat × V)} {j : Nat} (b : BtOk l o) (hb : badI l st xs = some j) (a : AskO l st o xs k i oo) : k = "run" ∧ i = (j : Int) ∧ oo = none := by
  rcases a with ⟨n, _⟩ | ⟨_, j', e, a⟩ | ⟨_, _, run, ts, _, _, e, T, _⟩
  · exact absurd b n
  · rw [hb] at e
    cases e
    exact a
  · rw [e, bad_none T] at hb
    cases hb
/-- asked of a right book and a right run -/
theorem asko_right {l lw : List (Str × Sd)} {h : Int} {st : Str} {kvs : MV} {ef : V → En} {run ts : List Str} {k : Str} {i : Int} {oo : Option (Nat × V)} (g : GoodT h l) (T : TabSort l lw) (hst : st ∈ l.map (·.1)) (bo : BkOk lw kvs ef) (tr : Trail l st run ts) (a : AskO lw st (some (kvs, ef)) (strsV run) k i oo) :
    k = "told" ∧ i = 0 ∧ Br l (bkO kvs ef) run ts oo := by
  rcases a with ⟨n, _⟩ | ⟨_, j, e, _⟩ | ⟨kvs', ef', run', ts', e1, _, e2, t2, rfl, rfl, b⟩
  · exact absurd ⟨_, _, rfl, bo⟩ n
  · have : badI lw st (strsV run) = none := bad_none (tr.sort g T)
    rw [this] at e
    cases e
  · cases e1
    have := strsV_inj e2
    subst this
    have := trail_one t2 (tr.sort g T)
    subst this
    exact ⟨rfl, rfl, br_sort T (tr.mem g hst) b⟩
theorem br_dat {l : List (Str × Sd)} {bk : List (Str × List Str)} {run ts : List Str} {o : Option (Nat × V)} (b : Br l bk run ts o) : ∀ k v, o = some (k, v) → v = .non ∨ ∃ i, v = .int i := fun k v e => by
  subst e
  obtain ⟨⟨z, s, _, _, _, rfl⟩, _⟩ := b
  unfold moverAt
  cases l.lookup z with
  | none => exact .inl rfl
  | some x => cases x with
    | hand k _ => exact .inr ⟨k, rfl⟩
    | _ => exact .inl rfl
/-- two answers with the same in them -/
theorem ask_same {K : PySem.W.Frag} {H : Hp} {L L2 T T2 : Addr} {u u2 : V} {k : Str} {i : Int} {oo : Option (Nat × V)} (h1 : H L = some (.lst [.ref T, u])) (h2 : H T = some (.tup [.str k, .int i])) (h3 : BrAt H u oo) (g1 : H L2 = some (.lst [.ref T2, u2])) (g2 : H T2 = some (.tup [.str k, .int i])) (g3 : BrAt H u2 oo)
    (hk : k = "told" ∨ k = "book" ∨ k = "run") (hd : ∀ k v, oo = some (k, v) → v = .non ∨ ∃ i, v = .int i) : ∃ d, Dp K H (.ref L) d ∧ Dp K H (.ref L2) d ∧ SeqAt.shaped d = true := by
  obtain ⟨d, a1, a2, a3⟩ : ∃ d, Dp K H u d ∧ Dp K H u2 d ∧ (d = .none ∨ (∃ j : Int, d = .tuple [.int j, .none]) ∨ ∃ j m : Int, d = .tuple [.int j, .int m]) := by
    cases oo with
    | none =>
      cases h3
      cases g3
      exact ⟨_, .non, .non, .inl rfl⟩
    | some q =>
      obtain ⟨n, v⟩ := q
      obtain ⟨A, rfl, hA⟩ := h3
      obtain ⟨A2, rfl, hA2⟩ := g3
      rcases hd n v rfl with rfl | ⟨m, rfl⟩
      · exact ⟨_, .tup (SqT.of hA) (.cons (.int _) (.cons .non .nil)), .tup (SqT.of hA2) (.cons (.int _) (.cons .non .nil)), .inr (.inl ⟨_, rfl⟩)⟩
      · exact ⟨_, .tup (SqT.of hA) (.cons (.int _) (.cons (.int _) .nil)), .tup (SqT.of hA2) (.cons (.int _) (.cons (.int _) .nil)), .inr (.inr ⟨_, _, rfl⟩)⟩
  refine ⟨_, .lst (SqL.of h1) (.cons (.tup (SqT.of h2) (.cons (.str k) (.cons (.int i) .nil))) (.cons a1 .nil)), .lst (SqL.of g1) (.cons (.tup (SqT.of g2) (.cons (.str k) (.cons (.int i) .nil))) (.cons a2 .nil)), ?_⟩
  have hk2 : PyData.strOk k = true := by rcases hk with rfl | rfl | rfl <;> decide +kernel
  unfold SeqAt.shaped
  have e1 : PyData.canLay0 (.list [.tuple [.str k, .int i], d]) = true := by
    show ((PyData.strOk k && (true && true)) && (PyData.canLay0 d && true)) = true
    rw [hk2]
    rcases a3 with rfl | ⟨j, rfl⟩ | ⟨j, m, rfl⟩ <;> rfl
  have e2 : PyData.depth (.list [.tuple [.str k, .int i], d]) ≤ 64 := by
    rcases a3 with rfl | ⟨j, rfl⟩ | ⟨j, m, rfl⟩ <;> simp only [PyData.depth, PyData.depthAll] <;> omega
  rw [e1, decide_eq_true e2]
  rfl
theorem x_neRefl {K : PySem.W.Frag} {H : Hp} {Q : VK} {x y : V} {d : PyData} (hx : Dp K H x d) (hy : Dp K H y d) (hs : SeqAt.shaped d = true) (q : Q (.bl false) H) : rNeD K x y H Q := ⟨d, d, hx, hy, hs, hs, by rw [SeqAt.eqv_refl d (SeqAt.canLay_of_shaped hs)]; exact q⟩
theorem x_eqRefl {K : PySem.W.Frag} {H : Hp} {Q : VK} {x y : V} {d : PyData} (hx : Dp K H x d) (hy : Dp K H y d) (hs : SeqAt.shaped d = true) (q : Q (.bl true) H) : rEqD K x y H Q := ⟨d, d, hx, hy, hs, hs, by rw [SeqAt.eqv_refl d (SeqAt.canLay_of_shaped hs)]; exact q⟩
theorem x_asg0 {te : TE} {g : TG} {σ : L2.St} {H : Hp} {n : L2.St → Hp → Prop} {r : VK} {b c : L2.St → Hp → Prop} (h : te σ H fun v H1 => g v σ H1 n) : tAsg te g ⟨n, r, b, c⟩ σ H := h
/-! ### k69: the law, its main function -/
section
variable {P : Program} {w : World} {K : PySem.W.Frag} {mg : Str → Option Value} {base : Heap} {CW : Addr}
set_option maxHeartbeats 40000000 in
theorem ok_law {f : Addr} {fd : FuncData} (F : Fun K "law" "law" s_law f fd) (Z_len : mg "len" = none) (Z_tuple : mg "tuple" = none) (Z_repr : mg "repr" = none) (Z_sys : (K.lookup sysModules).isSome = true)
    (C_l_build : Cal P w K mg base 5 "_law_build" ["_law_script"] (spBuild K)) (C_l_open : Cal P w K mg base 1 "_law_open" ["_law_script", "_law_k"] (spOpen K)) (C_draw : Cal P w K mg base 1 "_law_draw" ["_law_drawer", "_law_many"] spDraw) (C_l_book : Cal P w K mg base 2 "_law_book" ["_law_drawer", "_law_stands_here"] spBookL)
    (C_l_run : Cal P w K mg base 2 "_law_run" ["_law_script", "_law_stands_here", "_law_start"] (spRunC K)) (M_Work : Mkc P w K mg base CW 5 "Work" ["self", "hands", "start", "stands"] (spWorkInit CW)) (C_is_book : Cal P w K mg base 3 "is_book" ["work", "thing"] (spIsBookX K w CW))
    (C_l_spoiled : Cal P w K mg base 3 "_law_spoiled" ["_law_drawer", "_law_stands_here", "_law_book_here"] (spSpoilB K w)) (C_l_right : Cal P w K mg base 2 "_law_right" ["_law_stands_here", "_law_thing"] (spRightL K w)) (C_l_same : Cal P w K mg base 1 "_law_same" ["_law_told", "_law_expected"] spSameB)
    (C_l_asked : Cal P w K mg base 6 "_law_asked" ["_law_work", "_law_book_here", "_law_run_here"] (spAskedV K w CW)) (C_l_breach : Cal P w K mg base 2 "_law_breach" ["_law_stands_here", "_law_book_here", "_law_start", "_law_run_here"] (spBreachL K)) : FnL P w K mg base f fd ["_law_script"] (spLaw K) := by
  refine Fun.okL (k := 8) ⟨rfl, by decide, by decide⟩ F sc_law (fun vs H Q E h => ?_) (fun cdv s H vs Q hr h => ?_)
  · obtain ⟨_, _, rfl, _⟩ := h
    rfl
  · obtain ⟨sa, sc, rfl, hS, hlen, k⟩ := h
    have hu := hu_of hr
    refine ⟨_, (pss_cons (ps_set (i := 1) sc_law.nd rfl (Or.inl rfl) (pe_cal C_l_open (hr.mono (by decide)) (by rfl) (pa_cons (pv 0) (pa_cons pe_int pa_nil))))
      (pss_cons (ps_set (i := 2) sc_law.nd rfl (Or.inl rfl) (pe_cmpR op_eq (pe_cal C_draw (hr.mono (by decide)) (by rfl) (pa_cons (pv 1) (pa_cons pe_int pa_nil))) pe_int (nomark _)))
      (pss_cons (ps_set (i := 3) sc_law.nd rfl (Or.inl rfl) (pe_cmpR op_eq (pe_cal C_draw (hr.mono (by decide)) (by rfl) (pa_cons (pv 1) (pa_cons pe_int pa_nil))) pe_int (nomark _)))
      (pss_cons (ps_asg (pe_cal C_l_build (hr.mono (by decide)) (by rfl) (pa_cons (pv 0) pa_nil)) (pg_lst (n := 3) rfl (pgs_cons (pg_name (i := 4) sc_law.nd rfl (Or.inl rfl)) (pgs_cons (pg_name (i := 5) sc_law.nd rfl (Or.inl rfl)) (pgs_cons (pg_name (i := 6) sc_law.nd rfl (Or.inl rfl)) pgs_nil)))))
      (pss_cons (ps_set (i := 7) sc_law.nd rfl (Or.inl rfl) (pe_mk M_Work (hr.mono (by decide)) (by rfl) (pa_cons (pv 4) (pa_cons (pe_ix ix_list (pv 5) pe_int (fun _ _ => rfl)) (pa_cons (pv 6) pa_nil)))))
      (pss_cons (ps_set (i := 8) sc_law.nd rfl (Or.inl rfl) (pe_cal C_l_book (hr.mono (by decide)) (by rfl) (pa_cons (pe_cal C_l_open (hr.mono (by decide)) (by rfl) (pa_cons (pv 0) (pa_cons pe_int pa_nil))) (pa_cons (pv 6) pa_nil))))
      (pss_cons (ps_set (i := 9) sc_law.nd rfl (Or.inl rfl) (pe_cal C_l_run (hr.mono (by decide)) (by rfl) (pa_cons (pv 0) (pa_cons (pv 6) (pa_cons (pe_ix ix_list (pv 5) pe_int (fun _ _ => rfl)) pa_nil)))))
      (pss_cons (ps_set (i := 10) sc_law.nd rfl (Or.inl rfl) (pe_callB (call_reprU rfl (hu100 hr) Z_sys) (by rfl) Z_repr (by decide +kernel) (pa_cons (pe_lst (pa_cons (pv 8) (pa_cons (pv 9) pa_nil))) pa_nil)))
      (pss_cons (ps_if (pt_not (pt_val (pe_cal C_l_same (hr.mono (by decide)) (by rfl) (pa_cons (pe_cal C_is_book (hr.mono (by decide)) (by rfl) (pa_cons (pv 7) (pa_cons (pv 8) pa_nil))) (pa_cons pe_bl pa_nil)))))
      (pss_one (ps_ret pe_bl))
      pss_nil)
      (pss_cons (ps_if (pt_cmpR (op_neD hr.units) (pe_cal C_l_asked (hr.mono (by decide)) (by rfl) (pa_cons (pv 7) (pa_cons (pv 8) (pa_cons (pv 9) pa_nil)))) (pe_lst (pa_cons (pe_tup (pa_cons pe_str (pa_cons pe_int pa_nil))) (pa_cons (pe_cal C_l_breach (hr.mono (by decide)) (by rfl) (pa_cons (pv 6) (pa_cons (pv 8) (pa_cons (pe_ix ix_list (pv 5) pe_int (fun _ _ => rfl)) (pa_cons (pv 9) pa_nil))))) pa_nil))) (nomark _))
      (pss_one (ps_ret pe_bl))
      pss_nil)
      (pss_cons (ps_if (PW.pt (pw_or (pt_cmpR op_ne (pe_callB (call_reprU rfl (hu100 hr) Z_sys) (by rfl) Z_repr (by decide +kernel) (pa_cons (pe_lst (pa_cons (pv 8) (pa_cons (pv 9) pa_nil))) pa_nil)) (pv 10) (nomark _)) (pw_or1 (pt_cmpR (op_neD hr.units) (pe_cal C_l_asked (hr.mono (by decide)) (by rfl) (pa_cons (pv 7) (pa_cons pe_dnewK (pa_cons (pe_callTy call_tupleA (by rfl) Z_tuple (by decide +kernel) (pa_cons (pv 9) pa_nil)) pa_nil)))) (pe_lst (pa_cons (pe_tup (pa_cons pe_str (pa_cons pe_int pa_nil))) (pa_cons pe_non pa_nil))) (nomark _)))))
      (pss_one (ps_ret pe_bl))
      pss_nil)
      (pss_cons (ps_set (i := 11) sc_law.nd rfl (Or.inl rfl) (pv 8))
      (pss_cons (ps_if (pt_val (pv 2))
      (pss_one (ps_set (i := 11) sc_law.nd rfl (Or.inl rfl) (pe_cal C_l_spoiled (hr.mono (by decide)) (by rfl) (pa_cons (pv 1) (pa_cons (pv 6) (pa_cons (pv 8) pa_nil))))))
      pss_nil)
      (pss_cons (ps_set (i := 12) sc_law.nd rfl (Or.inl rfl) (pe_cal C_l_right (hr.mono (by decide)) (by rfl) (pa_cons (pv 6) (pa_cons (pv 11) pa_nil))))
      (pss_cons (ps_if (pt_not (pt_val (pe_cal C_l_same (hr.mono (by decide)) (by rfl) (pa_cons (pe_cal C_is_book (hr.mono (by decide)) (by rfl) (pa_cons (pv 7) (pa_cons (pv 11) pa_nil))) (pa_cons (pv 12) pa_nil)))))
      (pss_one (ps_ret pe_bl))
      pss_nil)
      (pss_cons (ps_set (i := 13) sc_law.nd rfl (Or.inl rfl) (pe_cal C_draw (hr.mono (by decide)) (by rfl) (pa_cons (pv 1) (pa_cons (pe_op op_add (pe_callB call_lenA (by rfl) Z_len (by decide +kernel) (pa_cons (pv 9) pa_nil)) pe_int) pa_nil))))
      (pss_cons (ps_set (i := 14) sc_law.nd rfl (Or.inl rfl) (pe_lst (pa_cons (pe_tup (pa_cons pe_str (pa_cons pe_int pa_nil))) (pa_cons pe_non pa_nil))))
      (pss_cons (ps_if (pt_val (pv 3))
      (pss_one (ps_set (i := 9) sc_law.nd rfl (Or.inl rfl) (pe_op op_cat (pe_op op_cat (pe_slice sl_list (pv 9) po_none (po_some (pv 13))) (pe_lst (pa_cons (pe_ix ix_list (pe_lst (pa_cons pe_str (pa_cons pe_non (pa_cons pe_int (pa_cons pe_str (pa_cons (pe_tup pa_nil) pa_nil)))))) (pe_cal C_draw (hr.mono (by decide)) (by rfl) (pa_cons (pv 1) (pa_cons pe_int pa_nil))) (fun _ _ => rfl)) pa_nil))) (pe_slice sl_list (pv 9) (po_some (pv 13)) po_none))))
      pss_nil)
      (pss_cons (ps_if (PW.pt (pw_and (pt_val (pv 12)) (pw_and1 (pt_val (pv 3)))))
      (pss_one (ps_set (i := 14) sc_law.nd rfl (Or.inl rfl) (pe_lst (pa_cons (pe_tup (pa_cons pe_str (pa_cons (pv 13) pa_nil))) (pa_cons pe_non pa_nil)))))
      pss_nil)
      (pss_cons (ps_if (PW.pt (pw_and (pt_val (pv 12)) (pw_and1 (pt_not (pt_val (pv 3))))))
      (pss_one (ps_set (i := 14) sc_law.nd rfl (Or.inl rfl) (pe_lst (pa_cons (pe_tup (pa_cons pe_str (pa_cons pe_int pa_nil))) (pa_cons (pe_cal C_l_breach (hr.mono (by decide)) (by rfl) (pa_cons (pv 6) (pa_cons (pv 11) (pa_cons (pe_ix ix_list (pv 5) pe_int (fun _ _ => rfl)) (pa_cons (pv 9) pa_nil))))) pa_nil)))))
      pss_nil)
      (pss_one (ps_ret (pe_cmpR (op_eqD hr.units) (pe_cal C_l_asked (hr.mono (by decide)) (by rfl) (pa_cons (pv 7) (pa_cons (pv 11) (pa_cons (pv 9) pa_nil)))) (pv 14) (nomark _)))))))))))))))))))))))), ?_⟩
    walk_at "go"
    refine ⟨sa, sc, 0, rfl, hS, hlen, by decide, by decide, fun H1 p s1 hp0 hp1 => ?_⟩
    walk_at "go"
    refine ⟨p, 2, rfl, hp1, by decide, by decide, fun H2 c1 b2 p2 _ _ => ?_⟩
    walk_at "go"
    refine ⟨p, 3, rfl, p2, by decide, by decide, fun H3 c2 b3 p3 _ _ => ?_⟩
    have S3 : L2.Same H H3 := same_but s1 hp0 (b2.trans b3)
    walk_at "go"
    generalize decide (c1 = 0) = sp
    generalize decide (c2 = 0) = ct
    refine x_asgL ?_
    walk_at "go"
    refine ⟨sa, sc, rfl, S3.seq hS, hlen, fun H4 r q D h ns l s4 hr4 hq4 hT g hkeys h1 h4 l8 hfin nzz sl4 => ?_⟩
    refine x_gl3 (SqL.of hr4) ?_
    have p4 := p3.same s4
    have S4 := S3.trans s4
    obtain ⟨n0, nt, en⟩ : ∃ a t, ns = a :: t := by
      have := g.l1
      cases ns with
      | nil =>
        have e := congrArg List.length hkeys
        rw [List.length_map] at e
        simp at e
        rw [e] at this
        simp at this
      | cons a t => exact ⟨a, t, rfl⟩
    have hn0 : n0 ∈ l.map (·.1) := by rw [hkeys, en]; exact List.mem_cons_self
    have hns0 : (strsV ns)[0]? = some (V.str n0) := by rw [en]; rfl
    try dsimp only
    refine x_slots (σ' := [some (.ref sa), some (.ref p), some (.bl sp), some (.bl ct), some (.int h), some (.ref q), some (.ref D), none, none, none, none, none, none, none, none]) rfl ?_
    walk_at "go"
    refine x_ixl 0 (SqL.of hq4) rfl hns0 ?_
    walk_at "go"
    intro Wk dW nW ndW nn
    have hTm : DictOf SdAt (upd (upd H4 dW (.own Wk)) Wk (.ins CW dW [])) D l := hT.same ((same_new ndW).trans (same_new (by rw [upd_ne (Ne.symm nn)]; exact nW)))
    refine ⟨Wk, D, dW, h, n0, l, rfl, upd_same, hTm, g, h1, h4, hn0, fun H5 lw kW Tw wa => ⟨rfl, ?_⟩⟩
    have s5 : L2.Same H4 H5 := same_made (L2.Same.refl _) nW ndW kW
    clear hTm
    have p5 := p4.same s5
    have glw := Tw.good g
    have srt : ∀ z x, lw.lookup z = some x → SrtSd x := fun z x hx => by
      obtain ⟨_, _, hs⟩ := Tw.sd z x hx
      exact sort_srt hs
    have S5 := S4.trans s5
    have hT5 := hT.same s5
    have hq5 := s5 _ _ hq4
    have hn0w : n0 ∈ lw.map (·.1) := Tw.pm.mem_iff.mpr hn0
    -- the ground: all that stays
    obtain ⟨pxs, ep5⟩ := pool_l p5
    have nqp : q ≠ p := fun e => by
      obtain ⟨_, _, _, _, e4⟩ := p4
      rw [e, e4, en] at hq4
      cases hq4
    have Gwa : WorkAt CW (wo H5 p) Wk h n0 lw := work_woL ep5 wa glw
    have GT : DictOf SdAt (wo H5 p) D l := tab_woL ep5 hT5 g
    have Gq : (wo H5 p) q = some (.lst (strsV ns)) := by rw [wo_ne nqp]; exact hq5
    walk_at "go"
    refine ⟨sa, sc, 2, rfl, S5.seq hS, hlen, by decide, by decide, fun H6 o s6 ho0 ho6 => ?_⟩
    have nDo : D ≠ o := by
      obtain ⟨mD, hD4, _⟩ := id hT5.ex
      exact ne_of_none hD4 ho0
    walk_at "go"
    refine ⟨o, D, h, l, rfl, ho6, hT5.same (same_woN s6 ho0), nDo, g, fun H7 B bk b7 _ nB6 _ hB7 bnd bok => ?_⟩
    have S57 : L2.Same H5 H7 := same_but s6 ho0 b7
    have nB5 : H5 B = none := s6.free nB6
    walk_at "go"
    refine x_ixl 0 (SqL.of (S57 _ _ hq5)) rfl hns0 ?_
    walk_at "go"
    refine ⟨sa, D, sc, n0, h, l, rfl, (S5.trans S57).seq hS, hlen, TabRd.of (hT5.same S57), g, hn0, fun H8 R run ts s8 nR7 hR8 rl T => ?_⟩
    have S58 := S57.trans s8
    have p8 := p5.same S58
    have nRp : R ≠ p := (p5.same S57).ne nR7
    have hB8 : DictOf RwAt H8 B bk := hB7.imp s8 fun _ _ h => s8 _ _ h
    obtain ⟨m, hBm, mnd, m8, mrow, mbt, mok⟩ := right_bt (K := K) (w := w) hB8 bnd bok g l8
    generalize hef : (fun v : V => En.row (match v with | .ref a => (match H8 a with | some (.tup xs) => xs | _ => []) | _ => [])) = ef at mbt mok
    have nBR : B ≠ R := fun e => by
      rw [e, hR8] at hBm
      cases hBm
    have nBp : B ≠ p := fun e => by
      rw [e, ep5] at nB5
      cases nB5
    -- the ground without the drawer and the book
    have G0 : L2.Same (wo H5 p) (wo (wo H8 p) B) := fun b x e => by
      obtain ⟨e1, e2⟩ := wo_some e
      rw [wo_ne (ne_of_none e1 nB5), wo_ne e2]
      exact S58 _ _ e1
    have rl2 : (strsV run).length = run.length := List.length_map ..
    have runn : ∀ s ∈ run, NameS s := run_nm g T
    have smB : Sml w H8 2 7000 (.ref B) := (sml_dict (n := 1) (B := 400) (.inr ⟨_, .inl hBm, rfl⟩) fun p hp => by
      obtain ⟨q, hq, rfl⟩ := mS_mem hp
      obtain ⟨n1, a, rr, e1, e2, n2, l4⟩ := mrow q hq
      refine ⟨(nam_sml n1).mono (by decide) (by decide), ?_⟩
      show Sml w H8 1 400 q.2
      rw [e1]
      refine (sml_row (n := 0) (B := 82) (.inr e2) fun y hy => ?_).mono (by decide) ?_
      · obtain ⟨s, hs, rfl⟩ := List.mem_map.mp hy
        exact nam_sml (n2 s hs)
      · show (rr.map V.str).length * 84 + 3 ≤ 400
        rw [List.length_map]
        omega).mono (by decide) (by
        show (mS m).length * 804 + 3 ≤ 7000
        rw [mS_len]
        omega)
    have smR : Sml w H8 2 7000 (.ref R) := (sml_row (n := 0) (B := 82) (.inl (.inl hR8)) fun y hy => by
      obtain ⟨s, hs, rfl⟩ := List.mem_map.mp hy
      exact nam_sml (runn s hs)).mono (by decide) (by rw [rl2]; omega)
    walk_at "go"
    refine ⟨sz_le (by simp), fun L1 nL1 => ?_⟩
    have s9 : L2.Same H8 (upd H8 L1 (.lst [.ref B, .ref R])) := same_new nL1
    obtain ⟨dB, dR, shB, shR, sd1, sd2, sd3⟩ := two_shU (w := w) (L := L1) (n := 2) (B := 7000) upd_same (smB.same s9) (smR.same s9)
    have shL := ShU.lst (w := w) (.inl upd_same) (.cons shB (.cons shR .nil))
    generalize upd H8 L1 (.lst [.ref B, .ref R]) = H9 at s9 shB shR shL
    refine ⟨.ref L1, .list [dB, dR], rfl, shL, sd1, by omega, Nat.le_trans sd3 (by decide), ?_⟩
    generalize hsh : (PyData.list [dB, dR]).shown = sh
    -- is_book
    have wkB : ∀ {H' : Hp}, L2.Same H8 H' → WorkAt CW (wo H' B) Wk h n0 lw := fun {H'} s => Gwa.same (fun b x e => by
      obtain ⟨e1, e2⟩ := wo_some e
      rw [wo_ne (ne_of_none e1 nB5)]
      exact s _ _ (S58 _ _ e1))
    have wkA : ∀ {H' : Hp}, L2.Same H8 H' → WorkAt CW H' Wk h n0 lw := fun s => (wkB s).same wo_same
    walk_at "go"
    refine ⟨Wk, .ref B, h, n0, lw, some (mS m, ef), rfl, wkA s9, fun B' _ e => by cases e; exact wkB s9, glw, srt, mbt.same s9, fun H10 b W10 hb => ?_⟩
    have mokw := (bkok_sort Tw).mpr mok
    have eb : b = true := hb.mpr ⟨_, _, rfl, mokw⟩
    subst eb
    walk_at "go"
    refine ⟨true, true, true, rfl, rfl, ?_⟩
    walk_at "go"
    -- asked
    have asks : ∀ {H' : Hp}, L2.Same H9 H' → Asks K w CW H' Wk R (.ref B) h n0 lw (some (mS m, ef)) (strsV run) := fun {H'} v => by
      have s := s9.trans v
      exact ⟨wkA s, fun B' _ e => by cases e; exact wkB s, glw, srt, hn0w, mbt.same s, .inl (SqL.of (s _ _ hR8)), by rw [rl2]; omega, fun y hy => by obtain ⟨z, _, rfl⟩ := List.mem_map.mp hy; exact ⟨_, .str z⟩⟩
    refine ⟨Wk, R, .ref B, h, n0, lw, _, _, rfl, asks W10, fun H11 La Ta u k0 i0 oo s11 nLa hLa hTa hua hao => ?_⟩
    obtain ⟨rfl, rfl, br1⟩ := asko_right g Tw hn0 mokw T hao
    have W11 := W10.trans s11
    walk_at "go"
    refine ⟨sz_le (by simp), fun T2 nT2 => ?_⟩
    have s12 := same_new (o := .tup [.str "told", .int 0]) nT2
    have t12 : (upd H11 T2 (.tup [.str "told", .int 0])) T2 = some (.tup [.str "told", .int 0]) := upd_same
    generalize upd H11 T2 (.tup [.str "told", .int 0]) = H12 at s12 t12
    have W12 := W11.trans s12
    have hq8 := S58 _ _ hq5
    have S12 := s9.trans W12
    walk_at "go"
    refine x_ixl 0 (SqL.of (S12 _ _ hq8)) rfl hns0 ?_
    walk_at "go"
    have hbk : ∀ {H' : Hp}, L2.Same H8 H' → DictOf RwAt H' B (bkO (mS m) ef) := fun {H'} s => by
      rcases mbt.same s with ⟨e, _⟩ | ⟨B', kvs', ef', e, e2, hX⟩
      · cases e
      · cases e
        cases e2
        exact (bk_of hX mok).1
    refine ⟨D, B, R, n0, h, l, bkO (mS m) ef, run, ts, rfl, TabRd.of ((hT5.same S58).same S12), g, hbk S12, SqL.of (S12 _ _ hR8), by omega, T, hn0, fun H13 v2 o2 s13 br2 ba2 => ?_⟩
    obtain rfl := br1.one br2
    walk_at "go"
    refine ⟨sz_le (by simp), fun Lc nLc => ?_⟩
    have s14 := s13.trans (same_new (o := .lst [.ref T2, v2]) nLc)
    obtain ⟨dd, dd1, dd2, dd3⟩ := ask_same (K := K) ((s12.trans s14) _ _ hLa) ((s12.trans s14) _ _ hTa) (hua.same (s12.trans s14)) upd_same (s14 _ _ t12) (ba2.same (same_new nLc)) (.inl rfl) (br_dat br1)
    generalize upd H13 Lc (.lst [.ref T2, v2]) = H14 at s14 dd1 dd2
    refine x_neRefl dd1 dd2 dd3 ?_
    have W14 := W12.trans s14
    walk_at "go"
    -- shown again
    refine ⟨sz_le (by simp), fun L3 nL3 => ?_⟩
    have s15 := same_new (o := .lst [.ref B, .ref R]) nL3
    have t15 : (upd H14 L3 (.lst [.ref B, .ref R])) L3 = some (.lst [.ref B, .ref R]) := upd_same
    generalize upd H14 L3 (.lst [.ref B, .ref R]) = H15 at s15 t15
    have W15 := W14.trans s15
    refine ⟨.ref L3, .list [dB, dR], rfl, .lst (.inl t15) (.cons (shB.same W15) (.cons (shR.same W15) .nil)), sd1, by omega, Nat.le_trans sd3 (by decide), ?_⟩
    rw [hsh]
    walk_at "go"
    refine x_nyes rfl ?_
    walk_at "go"
    -- asked with no book, the run as a tuple
    intro E0 nE
    have s16 := same_new (o := .dK []) nE
    have tE : (upd H15 E0 (.dK [])) E0 = some (.dK []) := upd_same
    generalize upd H15 E0 (.dK []) = H16 at s16 tE
    have W16 := W15.trans s16
    have S16 := s9.trans W16
    walk_at "go"
    refine x_tupL (SqL.of (S16 _ _ hR8)) fun TR nTR => ?_
    have s17 := same_new (o := .tup (strsV run)) nTR
    have tTR : (upd H16 TR (.tup (strsV run))) TR = some (.tup (strsV run)) := upd_same
    have tE17 := s17 _ _ tE
    generalize upd H16 TR (.tup (strsV run)) = H17 at s17 tTR tE17
    have W17 := W16.trans s17
    have S17 := s9.trans W17
    walk_at "go"
    refine ⟨Wk, TR, .ref E0, h, n0, lw, some ([], fun _ => .no), strsV run, rfl, ⟨wkA S17, fun B' _ e => ?_, glw, srt, hn0w, .inr ⟨E0, [], _, rfl, rfl, ⟨.inr ⟨[], tE17, rfl⟩, (fun p hp => by cases hp), List.nodup_nil, (fun p hp => by cases hp), Nat.zero_le _, .inl ⟨[], rfl, tE17, List.nodup_nil⟩⟩⟩, .inr (SqT.of tTR), by rw [rl2]; omega, fun y hy => by obtain ⟨z, _, rfl⟩ := List.mem_map.mp hy; exact ⟨_, .str z⟩⟩, fun H18 Lb Tb ub kb ib ob s18 nLb hLb hTb hub hbo => ?_⟩
    · cases e
      refine Gwa.same fun b x e => ?_
      obtain ⟨e1, e2⟩ := wo_some e
      rw [wo_ne (ne_of_none ((s9.trans W15) _ _ (S58 _ _ e1)) nE)]
      exact S17 _ _ (S58 _ _ e1)
    obtain ⟨rfl, rfl, br3⟩ := asko_right g Tw hn0 (fun p hp => by cases hp) T hbo
    obtain rfl := br3.one (o' := none) (fun j y u _ _ ⟨r, e, _⟩ => by cases e)
    have W18 := W17.trans s18
    walk_at "go"
    refine ⟨sz_le (by simp), fun T4 nT4 => ?_⟩
    have s19 := same_new (o := .tup [.str "told", .int 0]) nT4
    have t19 : (upd H18 T4 (.tup [.str "told", .int 0])) T4 = some (.tup [.str "told", .int 0]) := upd_same
    generalize upd H18 T4 (.tup [.str "told", .int 0]) = H19 at s19 t19
    walk_at "go"
    refine ⟨sz_le (by simp), fun L4 nL4 => ?_⟩
    have s20 := same_new (o := .lst [.ref T4, V.non]) nL4
    obtain ⟨de, de1, de2, de3⟩ := ask_same (K := K) ((s19.trans s20) _ _ hLb) ((s19.trans s20) _ _ hTb) (hub.same (s19.trans s20)) upd_same (s20 _ _ t19) (rfl : BrAt _ .non none) (.inl rfl) (fun _ _ e => by cases e)
    generalize upd H19 L4 (.lst [.ref T4, V.non]) = H20 at s20 de1 de2
    refine x_neRefl de1 de2 de3 ?_
    have W20 := W18.trans (s19.trans s20)
    have en8 : ∀ q ∈ m, ∃ e, EnAt K (wo (wo H8 p) B) q.2 e := fun q hq => by
      obtain ⟨n1, a, rr, e1, e2, n2, l4⟩ := mrow q hq
      obtain ⟨_, ep8⟩ := pool_l p8
      rw [e1]
      exact en_row (wo2_at (fun z => by rw [z, ep8] at e2; cases e2) (fun z => by rw [z, hBm] at e2; cases e2) e2) (fun s hs => (n2 s hs).ok) (by omega)
    have S20 := s9.trans W20
    have p20 := p8.same S20
    have hR20 := S20 _ _ hR8
    have hB20 := S20 _ _ hBm
    have V20 : L2.Same (wo H5 p) (wo (wo H20 p) B) := fun b x e => by
      obtain ⟨e1, e2⟩ := wo_some e
      rw [wo_ne (ne_of_none e1 nB5), wo_ne e2]
      exact S20 _ _ (S58 _ _ e1)
    have en20 : ∀ q ∈ m, ∃ e, EnAt K (wo (wo H20 p) B) q.2 e := fun q hq => (en8 q hq).elim fun e h => ⟨e, h.same (wo2_but (But.of_same S20))⟩
    have in5 : ∀ {b : Addr} {x : HO}, (wo H5 p) b = some x → b ≠ p ∧ b ≠ B := fun e => ⟨(wo_some e).2, ne_of_none (wo_some e).1 nB5⟩
    clear asks hbk wkB wkA mbt mok mokw hef mrow smB smR shB shR shL hsh sd1 sd2 sd3 en8 br1 br2 br3 hB7 hB8 bnd
    refine ⟨false, rfl, x_F ?_⟩
    show tSeq (tAsg (tVar 8) (gName 11)) _ _ _ _
    refine x_seq (x_asg0 ⟨_, rfl, x_g1 (x_seq ?_)⟩)
    try dsimp only
    refine x_slots (σ' := [some (.ref sa), some (.ref p), some (.bl sp), some (.bl ct), some (.int h), some (.ref q), some (.ref D), some (.ref Wk), some (.ref B), some (.ref R), some (.str sh), some (.ref B), none, none, none]) rfl ?_
    refine if_joinH (α := V) (fun v H' => L2.Same (wo H5 p) (wo (wo H' p) B) ∧ PoolAt H' p ∧ H' R = some (.lst (strsV run)) ∧ ThB K w (wo H' p) B v)
      (fun v => [some (.ref sa), some (.ref p), some (.bl sp), some (.bl ct), some (.int h), some (.ref q), some (.ref D), some (.ref Wk), some (.ref B), some (.ref R), some (.str sh), some v, none, none, none]) (fun n' hn' => ?_) ?_
    · walk_at "go"
      cases sp with
      | false =>
        walk_at "go"
        refine hn' (.ref B) _ ⟨V20, p20, hR20, thb_dK (m := m) (by rw [wo_ne nBp]; exact hB20) mnd (by omega) fun q hq => (en20 q hq).elim fun e h => ⟨e, h.same fun b x e => (wo_some e).1⟩⟩
      | true =>
        walk_at "go"
        refine ⟨p, D, B, h, l, m, rfl, p20, GT.same V20, g, l8, g.l1, hB20, nBp, mnd, by omega, en20, fun H21 v b21 p21 th => ?_⟩
        walk_at "go"
        refine hn' v _ ⟨fun b x e => ?_, p21, b21 _ _ hR20 nRp (Ne.symm nBR), th⟩
        obtain ⟨n1, n2⟩ := in5 e
        rw [wo_ne n2, wo_ne n1]
        exact b21 _ _ (wo2_same _ _ (V20 _ _ e)) n1 n2
    rintro v H22 ⟨V22, p22, hR22, o, bt, ov⟩
    -- the ground at a later place
    have gr : ∀ {X : Hp}, But p H22 X → L2.Same (wo H5 p) (wo (wo X p) B) := fun {X} b z x e => by
      obtain ⟨n1, n2⟩ := in5 e
      rw [wo_ne n2, wo_ne n1]
      exact b _ _ (wo2_same _ _ (V22 _ _ e)) n1
    have woB : ∀ {X : Hp}, L2.Same (wo (wo X p) B) (wo X B) := fun {X} z x e => by
      obtain ⟨e1, e2⟩ := wo_some e
      rw [wo_ne e2]
      exact (wo_some e1).1
    have btX : ∀ {X : Hp}, But p H22 X → BT K w X v o := fun b => (bt.same (but_wo' b)).same wo_same
    have tabX : ∀ {X : Hp}, But p H22 X → TabRd X D l := fun b => TabRd.of ((GT.same (gr b)).same wo2_same)
    have qX : ∀ {X : Hp}, But p H22 X → X q = some (.lst (strsV ns)) := fun b => wo2_same _ _ (gr b _ _ Gq)
    have wX : ∀ {X : Hp}, But p H22 X → WorkAt CW X Wk h n0 lw := fun b => (Gwa.same (gr b)).same wo2_same
    have wbX : ∀ {X : Hp}, But p H22 X → ∀ B', o ≠ none → v = .ref B' → WorkAt CW (wo X B') Wk h n0 lw := fun b B' eo e => by
      have e2 := ov eo
      rw [e] at e2
      cases e2
      exact (Gwa.same (gr b)).same woB
    have aX : ∀ {X : Hp} {R' : Addr} {xs : List V}, But p H22 X → X R' = some (.lst xs) → xs.length ≤ 1000 → (∀ y ∈ xs, ∃ k, Kd K X y k) → Asks K w CW X Wk R' v h n0 lw o xs := fun b hr hl hk => ⟨wX b, wbX b, glw, srt, hn0w, btX b, .inl (SqL.of hr), hl, hk⟩
    walk_at "go"
    refine ⟨D, v, h, l, o, rfl, tabX But.refl, fun B' eo e => ?_, g, btX But.refl, fun H23 b s23 hb => ?_⟩
    · have e2 := ov eo
      rw [e] at e2
      cases e2
      exact TabRd.of ((GT.same V22).same woB)
    have b23 : But p H22 H23 := But.of_same s23
    walk_at "go"
    refine ⟨Wk, v, h, n0, lw, o, rfl, wX b23, wbX b23, glw, srt, btX b23, fun H24 b' s24 hb' => ?_⟩
    have b24 : But p H22 H24 := b23.trans (But.of_same s24)
    have ebb : b' = b := Bool.eq_iff_iff.mpr (hb'.trans ((btok_sort Tw).trans hb.symm))
    walk_at "go"
    refine ⟨b', b, true, rfl, by rw [ebb]; cases b <;> rfl, ?_⟩
    walk_at "go"
    have p24 := (p22.same s23).same s24
    have hR24 := s24 _ _ (s23 _ _ hR22)
    refine x_lenL (SqL.of hR24) ?_
    walk_at "go"
    refine ⟨p, _, rfl, p24, by omega, by rw [rl2]; exact Int.lt_of_le_of_lt (show _ ≤ (1000 : Int) by omega) (by decide +kernel), fun H25 r2 b25 p25 r20 r21 => ?_⟩
    rw [rl2] at r21
    obtain ⟨n, rfl⟩ : ∃ n : Nat, r2 = (n : Int) := ⟨r2.toNat, by omega⟩
    have hn : n ≤ run.length := by omega
    have b25 := b24.trans b25
    have hR25 := b25 _ _ hR22 nRp
    walk_at "go"
    refine ⟨sz_le (by simp), fun T5 nT5 => ?_⟩
    have s26 := same_new (o := .tup [.str "book", .int 1]) nT5
    have t26 : (upd H25 T5 (.tup [.str "book", .int 1])) T5 = some (.tup [.str "book", .int 1]) := upd_same
    have p26 := p25.new (o := .tup [.str "book", .int 1]) nT5
    have nT5p : T5 ≠ p := p25.ne nT5
    generalize upd H25 T5 (.tup [.str "book", .int 1]) = H26 at s26 t26 p26
    walk_at "go"
    refine ⟨sz_le (by simp), fun L5 nL5 => ?_⟩
    have s27 := s26.trans (same_new (o := .lst [.ref T5, V.non]) nL5)
    have t27 : (upd H26 L5 (.lst [.ref T5, V.non])) L5 = some (.lst [.ref T5, V.non]) := upd_same
    have u27 := same_new (o := .lst [.ref T5, V.non]) nL5 _ _ t26
    have p27 := p26.new (o := .lst [.ref T5, V.non]) nL5
    have nL5p : L5 ≠ p := p26.ne nL5
    generalize upd H26 L5 (.lst [.ref T5, V.non]) = H27 at s27 t27 u27 p27
    have b27 := b25.trans (But.of_same s27)
    have hR27 := s27 _ _ hR25
    cases ct with
    | false =>
      walk_at "go"
      cases b with
      | false =>
        walk_at "go"
        refine ⟨Wk, R, v, h, n0, lw, o, _, rfl, aX b27 hR27 (by rw [rl2]; omega) (fun y hy => by obtain ⟨z, _, rfl⟩ := List.mem_map.mp hy; exact ⟨_, .str z⟩), fun H28 La Ta u k0 i0 oo s28 nLa hLa hTa hua hao => ?_⟩
        obtain ⟨rfl, rfl, rfl⟩ := asko_book (fun z => Bool.false_ne_true (hb.mpr ((btok_sort Tw).mp z))) hao
        walk_at "go"
        obtain ⟨dd, dd1, dd2, dd3⟩ := ask_same (K := K) hLa hTa hua (s28 _ _ t27) (s28 _ _ u27) (rfl : BrAt _ .non none) (.inr (.inl rfl)) (fun _ _ e => by cases e)
        refine x_eqRefl dd1 dd2 dd3 ?_
        walk_at "go"
        exact k _
      | true =>
        obtain ⟨kvs, ef', rfl, bo⟩ := hb.mp rfl
        obtain rfl := ov (by simp)
        have bow := (bkok_sort Tw).mpr bo
        have hbk : ∀ {X : Hp}, But p H22 X → DictOf RwAt X B (bkO kvs ef') := fun b => by
          rcases btX b with ⟨e, _⟩ | ⟨B', kvs', ef'', e, e2, hX⟩
          · cases e
          · cases e
            cases e2
            exact (bk_of hX bo).1
        walk_at "go"
        refine ⟨sz_le (by simp), fun T6 nT6 => ?_⟩
        have s28 := same_new (o := .tup [.str "told", .int 0]) nT6
        have t28 : (upd H27 T6 (.tup [.str "told", .int 0])) T6 = some (.tup [.str "told", .int 0]) := upd_same
        generalize upd H27 T6 (.tup [.str "told", .int 0]) = H28 at s28 t28
        have b28 := b27.trans (But.of_same s28)
        walk_at "go"
        refine x_ixl 0 (SqL.of (qX b28)) rfl hns0 ?_
        walk_at "go"
        refine ⟨D, B, R, n0, h, l, bkO kvs ef', run, ts, rfl, tabX b28, g, hbk b28, SqL.of (s28 _ _ hR27), by omega, T, hn0, fun H29 v2 o2 s29 br2 ba2 => ?_⟩
        walk_at "go"
        refine ⟨sz_le (by simp), fun L6 nL6 => ?_⟩
        have s30 := s29.trans (same_new (o := .lst [.ref T6, v2]) nL6)
        have t30 : (upd H29 L6 (.lst [.ref T6, v2])) L6 = some (.lst [.ref T6, v2]) := upd_same
        have ba3 := ba2.same (same_new (o := .lst [.ref T6, v2]) nL6)
        generalize upd H29 L6 (.lst [.ref T6, v2]) = H30 at s30 t30 ba3
        have b30 := b28.trans (But.of_same s30)
        walk_at "go"
        refine ⟨Wk, R, .ref B, h, n0, lw, _, _, rfl, aX b30 (s30 _ _ (s28 _ _ hR27)) (by rw [rl2]; omega) (fun y hy => by obtain ⟨z, _, rfl⟩ := List.mem_map.mp hy; exact ⟨_, .str z⟩), fun H31 La Ta u k0 i0 oo s31 nLa hLa hTa hua hao => ?_⟩
        obtain ⟨rfl, rfl, br1⟩ := asko_right g Tw hn0 bow T hao
        obtain rfl := br1.one br2
        walk_at "go"
        obtain ⟨dd, dd1, dd2, dd3⟩ := ask_same (K := K) hLa hTa hua (s31 _ _ t30) (s31 _ _ (s30 _ _ t28)) (ba3.same s31) (.inl rfl) (br_dat br1)
        refine x_eqRefl dd1 dd2 dd3 ?_
        walk_at "go"
        exact k _
    | true =>
      walk_at "go"
      refine x_slL (SqL.of hR27) fun A1 nA1 => ?_
      rw [cut_to (by omega) (by rw [rl2]; omega), Int.toNat_natCast]
      have s28 := same_new (o := .lst ((strsV run).take n)) nA1
      have t28 : (upd H27 A1 (.lst ((strsV run).take n))) A1 = some (.lst ((strsV run).take n)) := upd_same
      have p28 := p27.new (o := .lst ((strsV run).take n)) nA1
      have nA1p : A1 ≠ p := p27.ne nA1
      generalize upd H27 A1 (.lst ((strsV run).take n)) = H28 at s28 t28 p28
      walk_at "go"
      refine ⟨sz_le (by simp), fun T6 nT6 => ?_⟩
      have s29 := same_new (o := .tup []) nT6
      have t29 : (upd H28 T6 (.tup [])) T6 = some (.tup []) := upd_same
      have p29 := p28.new (o := .tup []) nT6
      have nT6p : T6 ≠ p := p28.ne nT6
      generalize upd H28 T6 (.tup []) = H29 at s29 t29 p29
      walk_at "go"
      refine ⟨sz_le (by simp), fun A2 nA2 => ?_⟩
      have s30 := same_new (o := .lst [V.str "zz8zz", V.non, V.int 0, V.str "", V.ref T6]) nA2
      have t30 : (upd H29 A2 (.lst [V.str "zz8zz", V.non, V.int 0, V.str "", V.ref T6])) A2 = some (.lst [V.str "zz8zz", V.non, V.int 0, V.str "", V.ref T6]) := upd_same
      have p30 := p29.new (o := .lst [V.str "zz8zz", V.non, V.int 0, V.str "", V.ref T6]) nA2
      have nA2p : A2 ≠ p := p29.ne nA2
      generalize upd H29 A2 (.lst [V.str "zz8zz", V.non, V.int 0, V.str "", V.ref T6]) = H30 at s30 t30 p30
      walk_at "go"
      refine ⟨p, 5, rfl, p30, by decide, by decide, fun H31 j b31 p31 j0 j1 => ?_⟩
      obtain ⟨y, hy, hyin⟩ := pick1 [V.str "zz8zz", V.non, V.int 0, V.str "", V.ref T6] j0 (by simpa using j1)
      refine x_ixl j.toNat (SqL.of (b31 _ _ t30 nA2p)) (by omega) hy ?_
      have hA1 : H31 A1 = some (.lst ((strsV run).take n)) := b31 _ _ ((s29.trans s30) _ _ t28) nA1p
      have hT6 : H31 T6 = some (.tup []) := b31 _ _ (s30 _ _ t29) nT6p
      have q31 : But p H27 H31 := (But.of_same (s28.trans (s29.trans s30))).trans b31
      have hR31 := q31 _ _ hR27 nRp
      have t31 := q31 _ _ t27 nL5p
      have u31 := q31 _ _ u27 nT5p
      have b31 := b27.trans q31
      have h4 : ∀ z x, l.lookup z = some x → ∀ s ∈ stepsL x, NameS s ∧ s.length ≤ 4 := fun z x hx s hs => ⟨steps_nm (g.sd z x hx) s hs, sl4 z x hx s hs⟩
      have noT : (∀ z, stepV l z y = none) ∧ ∃ k, Kd K H31 y k := by
        simp only [List.mem_cons, List.not_mem_nil, or_false] at hyin
        rcases hyin with rfl | rfl | rfl | rfl | rfl
        · exact ⟨no_stepN h4 (fun h => absurd h.2 (by decide +kernel)), _, .str _⟩
        · exact ⟨fun _ => rfl, _, .non⟩
        · exact ⟨fun _ => rfl, _, .int _⟩
        · exact ⟨no_stepN h4 (fun h => by have := h.1.v; revert this; decide +kernel), _, .str _⟩
        · exact ⟨fun _ => rfl, _, .tup (SqT.of hT6)⟩
      obtain ⟨noS, ky, hky⟩ := noT
      have hbi := badI_ins T (n := n) (odd := y) hn noS
      rw [← badI_sort g Tw] at hbi
      walk_at "go"
      refine ⟨sz_le (by simp), fun A3 nA3 => ?_⟩
      have s32 := same_new (o := .lst [y]) nA3
      refine x_catL9 (s32 _ _ hA1) upd_same (by rw [List.length_take]; simp; omega) fun A4 nA4 => ?_
      have s33 := s32.trans (same_new (o := .lst ((strsV run).take n ++ [y])) nA4)
      have t33 : (upd (upd H31 A3 (.lst [y])) A4 (.lst ((strsV run).take n ++ [y]))) A4 = some (.lst ((strsV run).take n ++ [y])) := upd_same
      generalize upd (upd H31 A3 (.lst [y])) A4 (.lst ((strsV run).take n ++ [y])) = H33 at s33 t33
      walk_at "go"
      refine x_slL (SqL.of (s33 _ _ hR31)) fun A5 nA5 => ?_
      rw [cut_from (by omega) (by rw [rl2]; omega), Int.toNat_natCast]
      have s34 := same_new (o := .lst ((strsV run).drop n)) nA5
      refine x_catL9 (s34 _ _ t33) upd_same (by rw [List.length_append, List.length_take, List.length_drop]; simp; omega) fun R' nR' => ?_
      have s35 := s33.trans (s34.trans (same_new (o := .lst ((strsV run).take n ++ [y] ++ (strsV run).drop n)) nR'))
      have t35 : (upd (upd H33 A5 (.lst ((strsV run).drop n))) R' (.lst ((strsV run).take n ++ [y] ++ (strsV run).drop n))) R' = some (.lst ((strsV run).take n ++ [y] ++ (strsV run).drop n)) := upd_same
      generalize upd (upd H33 A5 (.lst ((strsV run).drop n))) R' (.lst ((strsV run).take n ++ [y] ++ (strsV run).drop n)) = H35 at s35 t35
      have b35 := b31.trans (But.of_same s35)
      have xl : ((strsV run).take n ++ [y] ++ (strsV run).drop n).length ≤ 1000 := by rw [List.length_append, List.length_append, List.length_take, List.length_drop]; simp; omega
      have xk : ∀ {X : Hp}, L2.Same H31 X → ∀ u ∈ (strsV run).take n ++ [y] ++ (strsV run).drop n, ∃ k, Kd K X u k := fun s u hu => by
        rcases List.mem_append.mp hu with hu | hu
        · rcases List.mem_append.mp hu with hu | hu
          · obtain ⟨z, _, rfl⟩ := List.mem_map.mp (List.mem_of_mem_take hu)
            exact ⟨_, .str z⟩
          · rw [List.mem_singleton.mp hu]
            exact ⟨_, hky.same s⟩
        · obtain ⟨z, _, rfl⟩ := List.mem_map.mp (List.mem_of_mem_drop hu)
          exact ⟨_, .str z⟩
      walk_at "go"
      cases b with
      | false =>
        walk_at "go"
        refine ⟨Wk, R', v, h, n0, lw, o, _, rfl, aX b35 t35 xl (xk s35), fun H36 La Ta u k0 i0 oo s36 nLa hLa hTa hua hao => ?_⟩
        obtain ⟨rfl, rfl, rfl⟩ := asko_book (fun z => Bool.false_ne_true (hb.mpr ((btok_sort Tw).mp z))) hao
        walk_at "go"
        obtain ⟨dd, dd1, dd2, dd3⟩ := ask_same (K := K) hLa hTa hua (s36 _ _ (s35 _ _ t31)) (s36 _ _ (s35 _ _ u31)) (rfl : BrAt _ .non none) (.inr (.inl rfl)) (fun _ _ e => by cases e)
        refine x_eqRefl dd1 dd2 dd3 ?_
        walk_at "go"
        exact k _
      | true =>
        have bow := (btok_sort Tw).mpr (hb.mp rfl)
        walk_at "go"
        refine ⟨sz_le (by simp), fun T7 nT7 => ?_⟩
        have s36 := same_new (o := .tup [.str "run", .int (n : Int)]) nT7
        have t36 : (upd H35 T7 (.tup [.str "run", .int (n : Int)])) T7 = some (.tup [.str "run", .int (n : Int)]) := upd_same
        generalize upd H35 T7 (.tup [.str "run", .int (n : Int)]) = H36 at s36 t36
        walk_at "go"
        refine ⟨sz_le (by simp), fun L7 nL7 => ?_⟩
        have s37 := same_new (o := .lst [.ref T7, V.non]) nL7
        have t37 : (upd H36 L7 (.lst [.ref T7, V.non])) L7 = some (.lst [.ref T7, V.non]) := upd_same
        generalize upd H36 L7 (.lst [.ref T7, V.non]) = H37 at s37 t37
        have s67 := s36.trans s37
        have b37 := b35.trans (But.of_same s67)
        walk_at "go"
        refine ⟨Wk, R', v, h, n0, lw, o, _, rfl, aX b37 (s67 _ _ t35) xl (xk (s35.trans s67)), fun H38 La Ta u k0 i0 oo s38 nLa hLa hTa hua hao => ?_⟩
        obtain ⟨rfl, rfl, rfl⟩ := asko_run bow hbi hao
        walk_at "go"
        obtain ⟨dd, dd1, dd2, dd3⟩ := ask_same (K := K) hLa hTa hua (s38 _ _ t37) (s38 _ _ (s37 _ _ t36)) (rfl : BrAt _ .non none) (.inr (.inr rfl)) (fun _ _ e => by cases e)
        refine x_eqRefl dd1 dd2 dd3 ?_
        walk_at "go"
        exact k _
end
end Law
namespace Law
open PySem PySem.Spec PyProof.Rows L2 Ox
theorem facts {P : Program} {w : World} {K : PySem.W.Frag} {h : Heap} {mg : Str → Option Value} {f : Addr} (X : K.In h) (G : h.Ns mainGlobals mg) (hfa : mg ("law" : Str) = some (.ref f)) (hPf : ((P.main.file : Str) == "/claim/cut.py") = true) (hPt : (P.main.scope.names.lookup ("super" : Str)).isSome = false) (c2 : Oh.Told2 "/claim/cut.py" faA dsA ssA K) :
    ∃ fd : FuncData, (∀ (s : Shared) (v : Value), BindsTo s fd ⟨[v], []⟩ [("_law_script", v)]) ∧ ∀ base : Heap, K.In base → base.Ns mainGlobals mg → FnL P w K mg base f fd ["_law_script"] ((spLaw K)) := by
  have c := c2.told
  obtain ⟨_, F_law⟩ := c.def_ 0 (d := d_law) rfl
  have e := hfa.symm.trans (He.glo_ok X G (c.fact 0 (f := Oh.fo (.glo "law")) rfl))
  cases e
  have b := Oh.bindsA (ps := ["_law_script"]) F_law fun _ _ _ _ _ _ us hl => match us, hl with | [_], _ => rfl
  refine ⟨_, fun s v => b s [v] rfl, fun base _ _ => ?_⟩
  have x1 : mg "len" = none := He.free_ok X G (c.fact 1 (f := Oh.fo (.free "len")) rfl)
  have x2 : mg "tuple" = none := He.free_ok X G (c.fact 2 (f := Oh.fo (.free "tuple")) rfl)
  have x3 : mg "repr" = none := He.free_ok X G (c.fact 3 (f := Oh.fo (.free "repr")) rfl)
  have x4 : (K.lookup sysModules).isSome = true := (c.fact 4 (f := fun K => (K.lookup sysModules).isSome) rfl)
  obtain ⟨_, F_l_build⟩ := c.def_ 1 (d := d_l_build) rfl
  obtain ⟨_, F_l_open⟩ := c.def_ 2 (d := d_l_open) rfl
  have x5 : mg "int" = none := He.free_ok X G (c.fact 5 (f := Oh.fo (.free "int")) rfl)
  have x6 : Cal P w K mg base 1 "_law_open" ["_law_script", "_law_k"] (spOpen K) := ⟨_, _, ok_l_open F_l_open x1 x5, He.glo_ok X G (c.fact 6 (f := Oh.fo (.glo "_law_open")) rfl), F_l_open.kp, bd_l_open F_l_open⟩
  obtain ⟨_, F_draw⟩ := c.def_ 3 (d := d_draw) rfl
  have x7 : Cal P w K mg base 1 "_law_draw" ["_law_drawer", "_law_many"] spDraw := ⟨_, _, ok_draw F_draw x5, He.glo_ok X G (c.fact 7 (f := Oh.fo (.glo "_law_draw")) rfl), F_draw.kp, bd_draw F_draw⟩
  obtain ⟨_, F_l_names⟩ := c.def_ 4 (d := d_l_names) rfl
  have x8 : mg "range" = none := He.free_ok X G (c.fact 8 (f := Oh.fo (.free "range")) rfl)
  have x9 : mg "str" = none := He.free_ok X G (c.fact 9 (f := Oh.fo (.free "str")) rfl)
  have x10 : Cal P w K mg base 2 "_law_names" ["_law_drawer", "_law_many"] spNames := ⟨_, _, ok_l_names F_l_names x8 x9 x7, He.glo_ok X G (c.fact 10 (f := Oh.fo (.glo "_law_names")) rfl), F_l_names.kp, bd_l_names F_l_names⟩
  obtain ⟨_, F_l_stands⟩ := c.def_ 5 (d := d_l_stands) rfl
  obtain ⟨_, F_l_menu⟩ := c.def_ 6 (d := d_l_menu) rfl
  have x11 : Cal P w K mg base 2 "_law_menu" ["_law_drawer"] spMenu := ⟨_, _, ok_l_menu F_l_menu x7, He.glo_ok X G (c.fact 11 (f := Oh.fo (.glo "_law_menu")) rfl), F_l_menu.kp, bd_l_menu F_l_menu⟩
  obtain ⟨_, F_l_stand⟩ := c.def_ 7 (d := d_l_stand) rfl
  obtain ⟨_, F_l_target⟩ := c.def_ 8 (d := d_l_target) rfl
  have x12 : Cal P w K mg base 2 "_law_target" ["_law_drawer", "_law_names_here", "_law_k", "_law_rings"] (spTarget K) := ⟨_, _, ok_l_target F_l_target x1 x7, He.glo_ok X G (c.fact 12 (f := Oh.fo (.glo "_law_target")) rfl), F_l_target.kp, bd_l_target F_l_target⟩
  have x13 : Cal P w K mg base 3 "_law_stand" ["_law_drawer", "_law_names_here", "_law_k", "_law_hands", "_law_menu_here", "_law_rings"] spStand := ⟨_, _, ok_l_stand F_l_stand x8 x1 x7 x12, He.glo_ok X G (c.fact 13 (f := Oh.fo (.glo "_law_stand")) rfl), F_l_stand.kp, bd_l_stand F_l_stand⟩
  have x14 : Cal P w K mg base 4 "_law_stands" ["_law_drawer", "_law_names_here", "_law_hands", "_law_rings"] spStands := ⟨_, _, ok_l_stands F_l_stands x8 x1 x11 x13, He.glo_ok X G (c.fact 14 (f := Oh.fo (.glo "_law_stands")) rfl), F_l_stands.kp, bd_l_stands F_l_stands⟩
  have x15 : Cal P w K mg base 5 "_law_build" ["_law_script"] (spBuild K) := ⟨_, _, ok_l_build F_l_build x6 x7 x10 x14, He.glo_ok X G (c.fact 15 (f := Oh.fo (.glo "_law_build")) rfl), F_l_build.kp, bd_l_build F_l_build⟩
  obtain ⟨_, F_l_book⟩ := c.def_ 9 (d := d_l_book) rfl
  have x16 : mg "sorted" = none := He.free_ok X G (c.fact 16 (f := Oh.fo (.free "sorted")) rfl)
  obtain ⟨_, F_l_steps⟩ := c.def_ 10 (d := d_l_steps) rfl
  have x17 : Cal P w K mg base 1 "_law_steps" ["_law_stands_here", "_law_stand_here"] spStepsC := ⟨_, _, ok_l_steps F_l_steps x16 x1, He.glo_ok X G (c.fact 17 (f := Oh.fo (.glo "_law_steps")) rfl), F_l_steps.kp, bd_l_steps F_l_steps⟩
  have x18 : Cal P w K mg base 2 "_law_book" ["_law_drawer", "_law_stands_here"] spBookL := ⟨_, _, ok_l_book F_l_book x8 x1 x16 x2 x7 x17, He.glo_ok X G (c.fact 18 (f := Oh.fo (.glo "_law_book")) rfl), F_l_book.kp, bd_l_book F_l_book⟩
  obtain ⟨_, F_l_run⟩ := c.def_ 11 (d := d_l_run) rfl
  have x19 : mg "min" = none := He.free_ok X G (c.fact 19 (f := Oh.fo (.free "min")) rfl)
  obtain ⟨_, F_l_to⟩ := c.def_ 12 (d := d_l_to) rfl
  have x20 : Cal P w K mg base 1 "_law_to" ["_law_stands_here", "_law_stand_here", "_law_step"] spToC := ⟨_, _, ok_l_to F_l_to , He.glo_ok X G (c.fact 20 (f := Oh.fo (.glo "_law_to")) rfl), F_l_to.kp, bd_l_to F_l_to⟩
  have x21 : Cal P w K mg base 2 "_law_run" ["_law_script", "_law_stands_here", "_law_start"] (spRunC K) := ⟨_, _, ok_l_run F_l_run x8 x1 x19 x17 x20 x6 x7, He.glo_ok X G (c.fact 21 (f := Oh.fo (.glo "_law_run")) rfl), F_l_run.kp, bd_l_run F_l_run⟩
  obtain ⟨_, F_Work_init⟩ := c.def_ 13 (d := d_Work_init) rfl
  have x22 : Cls K (He.ga K "Work") := He.cls_ok (c.fact 22 (f := Oh.fo (.cls "Work")) rfl)
  have x23 : NoAttr K (He.ga K "Work") "hands" := He.noat_ok (c.fact 23 (f := Oh.fo (.noat "Work" "hands")) rfl)
  have x24 : NoAttr K (He.ga K "Work") "start" := He.noat_ok (c.fact 24 (f := Oh.fo (.noat "Work" "start")) rfl)
  have x25 : NoAttr K (He.ga K "Work") "table" := He.noat_ok (c.fact 25 (f := Oh.fo (.noat "Work" "table")) rfl)
  have x26 : NoAttr K (He.ga K "Work") "names" := He.noat_ok (c.fact 26 (f := Oh.fo (.noat "Work" "names")) rfl)
  have x27 : NoAttr K (He.ga K "Work") "ends" := He.noat_ok (c.fact 27 (f := Oh.fo (.noat "Work" "ends")) rfl)
  have x28 : NoAttr K (He.ga K "Work") "ringless" := He.noat_ok (c.fact 28 (f := Oh.fo (.noat "Work" "ringless")) rfl)
  obtain ⟨_, F_is_integer⟩ := c.def_ 14 (d := d_is_integer) rfl
  have x29 : mg "bool" = none := He.free_ok X G (c.fact 29 (f := Oh.fo (.free "bool")) rfl)
  have x30 : mg "isinstance" = none := He.free_ok X G (c.fact 30 (f := Oh.fo (.free "isinstance")) rfl)
  have x31 : Cal P w K mg base 1 "is_integer" ["thing"] (spIsInt K) := ⟨_, _, ok_is_integer F_is_integer x5 x29 x30, He.glo_ok X G (c.fact 31 (f := Oh.fo (.glo "is_integer")) rfl), F_is_integer.kp, bd_is_integer F_is_integer⟩
  obtain ⟨_, F_is_name⟩ := c.def_ 15 (d := d_is_name) rfl
  have x32 : Cal P w K mg base 1 "is_name" ["thing"] (spIsName K) := ⟨_, _, ok_is_name F_is_name x9 x1 x30, He.glo_ok X G (c.fact 32 (f := Oh.fo (.glo "is_name")) rfl), F_is_name.kp, bd_is_name F_is_name⟩
  obtain ⟨_, F_are_stands⟩ := c.def_ 16 (d := d_are_stands) rfl
  have x33 : mg "dict" = none := He.free_ok X G (c.fact 33 (f := Oh.fo (.free "dict")) rfl)
  obtain ⟨_, F_is_stand⟩ := c.def_ 17 (d := d_is_stand) rfl
  obtain ⟨_, F_is_moves⟩ := c.def_ 18 (d := d_is_moves) rfl
  have x34 : Cal P w K mg base 2 "is_moves" ["thing", "names"] spIsMoves := ⟨_, _, ok_is_moves F_is_moves x33 x1 x30 x32, He.glo_ok X G (c.fact 34 (f := Oh.fo (.glo "is_moves")) rfl), F_is_moves.kp, bd_is_moves F_is_moves⟩
  obtain ⟨_, F_is_draws⟩ := c.def_ 19 (d := d_is_draws) rfl
  obtain ⟨_, F_is_pair⟩ := c.def_ 20 (d := d_is_pair) rfl
  have x35 : Cal P w K mg base 1 "is_pair" ["thing"] (spIsPair K) := ⟨_, _, ok_is_pair F_is_pair x2 x1 x30, He.glo_ok X G (c.fact 35 (f := Oh.fo (.glo "is_pair")) rfl), F_is_pair.kp, bd_is_pair F_is_pair⟩
  have x36 : Cal P w K mg base 2 "is_draws" ["thing", "names"] spIsDraws := ⟨_, _, ok_is_draws F_is_draws x33 x1 x30 x32 x35 x31, He.glo_ok X G (c.fact 36 (f := Oh.fo (.glo "is_draws")) rfl), F_is_draws.kp, bd_is_draws F_is_draws⟩
  have x37 : Cal P w K mg base 3 "is_stand" ["thing", "hands", "names"] (spIsStand K) := ⟨_, _, ok_is_stand F_is_stand x2 x9 x1 x30 x34 x36 x31, He.glo_ok X G (c.fact 37 (f := Oh.fo (.glo "is_stand")) rfl), F_is_stand.kp, bd_is_stand F_is_stand⟩
  have x38 : Cal P w K mg base 4 "are_stands" ["thing", "hands"] spAreStands := ⟨_, _, ok_are_stands F_are_stands x33 x1 x30 x32 x37, He.glo_ok X G (c.fact 38 (f := Oh.fo (.glo "are_stands")) rfl), F_are_stands.kp, bd_are_stands F_are_stands⟩
  obtain ⟨_, F_copied⟩ := c.def_ 21 (d := d_copied) rfl
  have x39 : Cal P w K mg base 1 "copied" ["stand"] spCopied := ⟨_, _, ok_copied F_copied x1 x16, He.glo_ok X G (c.fact 39 (f := Oh.fo (.glo "copied")) rfl), F_copied.kp, bd_copied F_copied⟩
  obtain ⟨_, F_is_ringless⟩ := c.def_ 22 (d := d_is_ringless) rfl
  have x40 : mg "list" = none := He.free_ok X G (c.fact 40 (f := Oh.fo (.free "list")) rfl)
  have x41 : mg "all" = none := He.free_ok X G (c.fact 41 (f := Oh.fo (.free "all")) rfl)
  obtain ⟨_, F_leads⟩ := c.def_ 23 (d := d_leads) rfl
  have x42 : Cal P w K mg base 1 "leads" ["work", "stand"] (spLeads (He.ga K "Work")) := ⟨_, _, ok_leads F_leads x22 x25, He.glo_ok X G (c.fact 42 (f := Oh.fo (.glo "leads")) rfl), F_leads.kp, bd_leads F_leads⟩
  have x43 : Cal P w K mg base 2 "is_ringless" ["work"] (spRingless (He.ga K "Work")) := ⟨_, _, ok_is_ringless F_is_ringless x22 x26 x40 x41 x1 x42, He.glo_ok X G (c.fact 43 (f := Oh.fo (.glo "is_ringless")) rfl), F_is_ringless.kp, bd_is_ringless F_is_ringless⟩
  have x44 : Mkc P w K mg base (He.ga K "Work") 5 "Work" ["self", "hands", "start", "stands"] (spWorkInit (He.ga K "Work")) := ⟨_, _, He.mkr_ok (c.fact 44 (f := Oh.fo (.mkr "Work")) rfl), ok_Work_init F_Work_init x22 x23 x24 x25 x26 x27 x28 x16 x2 x31 x32 x38 x39 x43, He.glo_ok X G (c.fact 45 (f := Oh.fo (.glo "Work")) rfl), bd_Work_init F_Work_init⟩
  obtain ⟨_, F_is_book⟩ := c.def_ 24 (d := d_is_book) rfl
  obtain ⟨_, F_Work_kind⟩ := c.def_ 25 (d := d_Work_kind) rfl
  obtain ⟨_, F_Work_row⟩ := c.def_ 26 (d := d_Work_row) rfl
  have x45 : Met P w K mg base (He.ga K "Work") 1 "row" ["self", "stand"] (spRow (He.ga K "Work")) := ⟨_, _, He.meth_ok (c.fact 46 (f := Oh.fo (.meth "Work" "row")) rfl), ok_Work_row F_Work_row x22 x25 x9 x30, bd_Work_row F_Work_row⟩
  have x46 : Met P w K mg base (He.ga K "Work") 2 "kind" ["self", "stand"] (spKind (He.ga K "Work")) := ⟨_, _, He.meth_ok (c.fact 47 (f := Oh.fo (.meth "Work" "kind")) rfl), ok_Work_kind F_Work_kind x22 x45, bd_Work_kind F_Work_kind⟩
  obtain ⟨_, F_Work_steps⟩ := c.def_ 27 (d := d_Work_steps) rfl
  have x47 : Met P w K mg base (He.ga K "Work") 2 "steps" ["self", "stand"] (spSteps (He.ga K "Work")) := ⟨_, _, He.meth_ok (c.fact 48 (f := Oh.fo (.meth "Work" "steps")) rfl), ok_Work_steps F_Work_steps x22 x1 x16 x45, bd_Work_steps F_Work_steps⟩
  obtain ⟨_, F_is_entry⟩ := c.def_ 28 (d := d_is_entry) rfl
  have x48 : mg "enumerate" = none := He.free_ok X G (c.fact 49 (f := Oh.fo (.free "enumerate")) rfl)
  have x49 : Cal P w K mg base 1 "is_entry" ["steps", "row"] (spIsEntryX K) := ⟨_, _, ok_is_entry F_is_entry x30 x2 x9 x1 x48, He.glo_ok X G (c.fact 50 (f := Oh.fo (.glo "is_entry")) rfl), F_is_entry.kp, bd_is_entry F_is_entry⟩
  have x50 : Cal P w K mg base 3 "is_book" ["work", "thing"] (spIsBookX K w (He.ga K "Work")) := ⟨_, _, ok_is_book F_is_book x22 x26 x30 x33 x9 x46 x47 x49, He.glo_ok X G (c.fact 51 (f := Oh.fo (.glo "is_book")) rfl), F_is_book.kp, bd_is_book F_is_book⟩
  obtain ⟨_, F_l_spoiled⟩ := c.def_ 29 (d := d_l_spoiled) rfl
  have x51 : Cal P w K mg base 3 "_law_spoiled" ["_law_drawer", "_law_stands_here", "_law_book_here"] (spSpoilB K w) := ⟨_, _, ok_l_spoiled F_l_spoiled x16 x1 x40 x2 x7 x17, He.glo_ok X G (c.fact 52 (f := Oh.fo (.glo "_law_spoiled")) rfl), F_l_spoiled.kp, bd_l_spoiled F_l_spoiled⟩
  obtain ⟨_, F_l_right⟩ := c.def_ 30 (d := d_l_right) rfl
  obtain ⟨_, F_l_entry⟩ := c.def_ 31 (d := d_l_entry) rfl
  have x52 : Cal P w K mg base 1 "_law_entry" ["_law_steps_here", "_law_row"] (spEntryL K) := ⟨_, _, ok_l_entry F_l_entry x30 x2 x9 x1 x41 x40, He.glo_ok X G (c.fact 53 (f := Oh.fo (.glo "_law_entry")) rfl), F_l_entry.kp, bd_l_entry F_l_entry⟩
  have x53 : Cal P w K mg base 2 "_law_right" ["_law_stands_here", "_law_thing"] (spRightL K w) := ⟨_, _, ok_l_right F_l_right x30 x33 x9 x17 x52, He.glo_ok X G (c.fact 54 (f := Oh.fo (.glo "_law_right")) rfl), F_l_right.kp, bd_l_right F_l_right⟩
  obtain ⟨_, F_l_same⟩ := c.def_ 32 (d := d_l_same) rfl
  have x54 : Cal P w K mg base 1 "_law_same" ["_law_told", "_law_expected"] spSameB := ⟨_, _, ok_l_same F_l_same x30 x29, He.glo_ok X G (c.fact 55 (f := Oh.fo (.glo "_law_same")) rfl), F_l_same.kp, bd_l_same F_l_same⟩
  obtain ⟨_, F_l_asked⟩ := c.def_ 33 (d := d_l_asked) rfl
  have x55 : mg "BadBook" = some (.ref (He.ga K "BadBook")) := He.glo_ok X G (c.fact 56 (f := Oh.fo (.glo "BadBook")) rfl)
  have x56 : mg "BadRun" = some (.ref (He.ga K "BadRun")) := He.glo_ok X G (c.fact 57 (f := Oh.fo (.glo "BadRun")) rfl)
  have x57 : mg "OwnError" = some (.ref (He.ga K "OwnError")) := He.glo_ok X G (c.fact 58 (f := Oh.fo (.glo "OwnError")) rfl)
  have x58 : ExcG K (He.ga K "BadRun") "index" := Oh.supB_g (c.fact 59 (f := Oh.supB "BadRun" "index") rfl)
  have x59 : PySem.W.exmOne K (.ref (He.ga K "BadBook")) (.ref (He.ga K "BadBook")) = some true := exmF_ok (c.fact 60 (f := exmF "BadBook" "BadBook" true) rfl)
  have x60 : PySem.W.exmOne K (.ref (He.ga K "BadRun")) (.ref (He.ga K "BadBook")) = some false := exmF_ok (c.fact 61 (f := exmF "BadRun" "BadBook" false) rfl)
  have x61 : PySem.W.exmOne K (.ref (He.ga K "BadRun")) (.ref (He.ga K "BadRun")) = some true := exmF_ok (c.fact 62 (f := exmF "BadRun" "BadRun" true) rfl)
  have x62 : ExcC K (He.ga K "BadBook") := excCF_ok (c.fact 63 (f := excCF "BadBook") rfl)
  have x63 : PySem.W.kitOne K (.ref (He.ga K "BadBook")) (.ref (He.ga K "OwnError")) = some true := kitF_ok (c.fact 64 (f := kitF "BadBook" "OwnError" true) rfl)
  obtain ⟨_, F_first_breach⟩ := c.def_ 34 (d := d_first_breach) rfl
  obtain ⟨_, F_passed⟩ := c.def_ 35 (d := d_passed) rfl
  obtain ⟨_, F_is_row⟩ := c.def_ 36 (d := d_is_row) rfl
  have x64 : Cal P w K mg base 1 "is_row" ["thing"] (spIsRow K) := ⟨_, _, ok_is_row F_is_row x40 x2 x30, He.glo_ok X G (c.fact 65 (f := Oh.fo (.glo "is_row")) rfl), F_is_row.kp, bd_is_row F_is_row⟩
  obtain ⟨_, F_Work_to⟩ := c.def_ 37 (d := d_Work_to) rfl
  have x65 : Met P w K mg base (He.ga K "Work") 2 "to" ["self", "stand", "step"] (spTo (He.ga K "Work")) := ⟨_, _, He.meth_ok (c.fact 66 (f := Oh.fo (.meth "Work" "to")) rfl), ok_Work_to F_Work_to x22 x1 x9 x30 x45, bd_Work_to F_Work_to⟩
  have x66 : ExcF P K mg "BadRun" "index" (He.ga K "BadRun") := Oh.supB_ok (d := u_BadRun) (c.fact 59 (f := Oh.supB "BadRun" "index") rfl) (He.glo_ok X G (c.fact 57 (f := Oh.fo (.glo "BadRun")) rfl)) (He.free_ok X G (c.fact 67 (f := Oh.fo (.free "super")) rfl)) hPt hPf (.inr (.inr (.inl rfl))) rfl rfl ⟨_, _, _, _, _, _, _, _, _, _, _, _, _, rfl, rfl, rfl, rfl⟩ (c2.sup 0 (d := u_BadRun) rfl).1 (c2.sup 0 (d := u_BadRun) rfl).2
  have x67 : CalX P w K mg base 3 "passed" ["work", "run"] (spPassedX K (He.ga K "Work") (He.ga K "BadRun")) := ⟨_, _, ok_passedX F_passed x22 x24 x48 x9 x30 x64 x47 x65 x66, He.glo_ok X G (c.fact 68 (f := Oh.fo (.glo "passed")) rfl), F_passed.kp, bd_passed F_passed⟩
  obtain ⟨_, F_movers⟩ := c.def_ 38 (d := d_movers) rfl
  have x68 : Cal P w K mg base 3 "passed" ["work", "run"] (spPassed K (He.ga K "Work")) := ⟨_, _, ok_passed F_passed x22 x24 x48 x9 x30 x64 x47 x65, He.glo_ok X G (c.fact 68 (f := Oh.fo (.glo "passed")) rfl), F_passed.kp, bd_passed F_passed⟩
  obtain ⟨_, F_Work_mover⟩ := c.def_ 39 (d := d_Work_mover) rfl
  have x69 : Met P w K mg base (He.ga K "Work") 2 "mover" ["self", "stand"] (spMover (He.ga K "Work")) := ⟨_, _, He.meth_ok (c.fact 69 (f := Oh.fo (.meth "Work" "mover")) rfl), ok_Work_mover F_Work_mover x22 x45, bd_Work_mover F_Work_mover⟩
  have x70 : CalX P w K mg base 4 "movers" ["work", "run"] (spMoversX K (He.ga K "Work") (He.ga K "BadRun")) := ⟨_, _, ok_moversX F_movers x22 x68 x69 x67, He.glo_ok X G (c.fact 70 (f := Oh.fo (.glo "movers")) rfl), F_movers.kp, bd_movers F_movers⟩
  obtain ⟨_, F_let_steps⟩ := c.def_ 40 (d := d_let_steps) rfl
  have x71 : Cal P w K mg base 3 "let_steps" ["work", "book", "stand"] (spLetSteps (He.ga K "Work")) := ⟨_, _, ok_let_steps F_let_steps x22 x40 x47, He.glo_ok X G (c.fact 71 (f := Oh.fo (.glo "let_steps")) rfl), F_let_steps.kp, bd_let_steps F_let_steps⟩
  have x72 : Exc0 K mg "BadBook" (He.ga K "BadBook") := exc0F_ok (He.glo_ok X G (c.fact 56 (f := Oh.fo (.glo "BadBook")) rfl)) (c.fact 72 (f := exc0F "BadBook") rfl)
  have x73 : CalX P w K mg base 5 "first_breach" ["work", "book", "run"] (spFirstX K w (He.ga K "Work") (He.ga K "BadBook") (He.ga K "BadRun")) := ⟨_, _, ok_first_breach F_first_breach x48 x50 x67 x70 x71 x72, He.glo_ok X G (c.fact 73 (f := Oh.fo (.glo "first_breach")) rfl), F_first_breach.kp, bd_first_breach F_first_breach⟩
  have x74 : Cal P w K mg base 6 "_law_asked" ["_law_work", "_law_book_here", "_law_run_here"] (spAskedV K w (He.ga K "Work")) := ⟨_, _, ok_l_asked F_l_asked x30 x5 x55 x56 x57 x58 x59 x60 x61 x62 x63 x73, He.glo_ok X G (c.fact 74 (f := Oh.fo (.glo "_law_asked")) rfl), F_l_asked.kp, bd_l_asked F_l_asked⟩
  obtain ⟨_, F_l_breach⟩ := c.def_ 41 (d := d_l_breach) rfl
  obtain ⟨_, F_l_mover⟩ := c.def_ 42 (d := d_l_mover) rfl
  have x75 : Cal P w K mg base 1 "_law_mover" ["_law_stands_here", "_law_stand_here"] spMoverL := ⟨_, _, ok_l_mover F_l_mover , He.glo_ok X G (c.fact 75 (f := Oh.fo (.glo "_law_mover")) rfl), F_l_mover.kp, bd_l_mover F_l_mover⟩
  have x76 : Cal P w K mg base 2 "_law_breach" ["_law_stands_here", "_law_book_here", "_law_start", "_law_run_here"] (spBreachL K) := ⟨_, _, ok_l_breach F_l_breach x8 x1 x20 x75, He.glo_ok X G (c.fact 76 (f := Oh.fo (.glo "_law_breach")) rfl), F_l_breach.kp, bd_l_breach F_l_breach⟩
  exact ok_law F_law x1 x2 x3 x4 x15 x6 x7 x18 x21 x44 x50 x51 x53 x54 x74 x76
end Law
open PySem PySem.W PySem.Calls PyProof.Rows
theorem PySem.Challenge.cw_ownslips_k69_books_judged_and_breaches_holds : PySem.Challenge.rw_ownslips_k69_books_judged_and_breaches.Holds := by
  refine Law.hz0 ?_
  refine HandSHeadRun.head_any (r := OpenLaw.row PySem.Challenge.rw_ownslips_k69_books_judged_and_breaches) (q := view (PySem.W.OpenLaw.row PySem.Challenge.rw_ownslips_k69_books_judged_and_breaches).prog [49]) (H := Law.hk) (ob := Law.ob) (M := 6000) (loose := Law.loA) (d := HandSHeadRun.topDef (PySem.W.OpenLaw.row PySem.Challenge.rw_ownslips_k69_books_judged_and_breaches).prog 49) (kwd := []) Law.ob_eq
    Law.hz1 Law.hz2 Law.run Law.hz3 Law.hz4 Law.hz5 Law.hz6 Law.hz7 Law.hz8 Law.hz9 Law.hz10 ?hc
  case hc =>
    refine Ox.walk_ofL (l := PySem.Challenge.rw_ownslips_k69_books_judged_and_breaches) (n := 63) (x := "_law_script") rfl (by decide) (by kernel_rfl) ?F
    intro w mg fa h Y G hmg0
    obtain ⟨K, KX, c⟩ := Y
    have hmg : mg ("law" : PySem.Str) = some (.ref fa) := by
      have e : (HandSHeadRun.topDef (PySem.W.OpenLaw.row PySem.Challenge.rw_ownslips_k69_books_judged_and_breaches).prog 49).name = ("law" : PySem.Str) := by kernel_rfl
      rw [← e]
      exact hmg0
    obtain ⟨fd, hb, hF⟩ := Law.facts (P := (PySem.Challenge.rw_ownslips_k69_books_judged_and_breaches).prog) (w := w) KX G hmg (by kernel_rfl) (by kernel_rfl) c
    exact ⟨K, fd, Law.spLaw K, KX, hb, fun H a ns hl _ hS => ⟨a, ns, rfl, hS, hl, fun _ => rfl⟩, hF⟩
