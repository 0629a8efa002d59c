import PyProof.Rows.All
import Wide.All
import OpenK.AllK
import Wide.FinOn
import HandS.ForMost
import HandS.Defaults
import HandS.Head0
import HandS.Head1
import HandS.Head2
import HandS.HeadEnd
import HandS.HeadHook1
import HandS.HeadHook2
import HandS.Property
import PyProof.Rows.RuleB_pow
import PyProof.Rows.SortShellAny
import HandS.TryOnly
import HandS.Wide
import HandS.Walk
import HandS.IsInst
import HandS.DictComp
import HandS.Style
import HandS.Flow
import HandS.TupAny
import HandS.ListItems
import HandS.Conv
import HandS.OwnEq
import KE.GoesMore
import KE.GoesEnum
import HandS.Iter
import HandS.SortKw
import HandS.More
import HandS.Finally
import KE.KDictSum
import HandS.SortRule
import HandS.SortOrd
import KE.KSortTup
import PyProof.ReprRoads
import HandS.Dict
import HandS.WordsExc
import HandS.ExcIs
import HandS.ExcField
import KE.KExcSuper
import KE.KSuper
import HandS.ExcInit
import HandS.TryMany
import KE.KEqNest
import KE.KeyNested
import KE.KDictWalk
import KE.KDictCopyH
import PySem.Challenge.RW_ownslips_k07_wishes_judged
set_option Elab.async false
set_option linter.all false
set_option maxRecDepth 100000
set_option maxHeartbeats 4000000
/-! Own hook: facts are any Bool of the written part, defs stand at any address that the written part tells. -/
namespace Oh
open PySem PySem.Spec PyProof.Rows L2
abbrev Frag := PySem.W.Frag
/-- a def: where it stands and its text -/
structure Dd where
  spot : Frag → Addr
  name : Str
  qual : Str
  st : Stmt
def Dd.fnd (d : Dd) (K : Frag) : He.FnW := (K.lookup (d.spot K)).bind fun o => match o.data with
  | .func fd => some (fd.name, fd.qualname, fd.params, fd.body, fd.scope, fd.globals, fd.closure, fd.builtins)
  | _ => none
def Dd.due (d : Dd) : He.FnW := some (d.name, d.qual, defArgs d.st, .stmts (defBody d.st), defScope d.st, mainGlobals, [], builtinsNs)
def isNon : Value → Bool
  | .none => true
  | _ => false
def Dd.good (d : Dd) (K : Frag) : Bool := match K.lookup (d.spot K) with
  | some o => (match o.data with
    | .func fd => PySem.W.keepIn K (.ref (d.spot K)) && (PySem.W.codeIn K fd.code d.qual && isNon fd.defaults)
    | _ => false)
  | none => false
theorem Dd.fun_ {d : Dd} {K : Frag} (e : d.fnd K = d.due) (g : d.good K = true) : ∃ fd, Fun K d.name d.qual d.st (d.spot K) fd := by
  unfold Dd.fnd at e
  unfold Dd.good at g
  cases q : K.lookup (d.spot K) with
  | none => rw [q] at g; cases g
  | some o =>
    obtain ⟨oc, od, dt, osl⟩ := o
    rw [q] at e g
    cases dt with
    | func fd =>
      obtain ⟨n1, n2, n3, n4, n5, n6, n7, n8, n9, n10, n11, n12, n13, n14, n15⟩ := fd
      have e2 : (some (n1, n2, n3, n4, n5, n6, n7, n15) : He.FnW) = some (d.name, d.qual, defArgs d.st, .stmts (defBody d.st), defScope d.st, mainGlobals, [], builtinsNs) := e
      have g2 : (PySem.W.keepIn K (.ref (d.spot K)) && (PySem.W.codeIn K n13 d.qual && isNon n8)) = true := g
      obtain ⟨g3, g4⟩ := Bool.and_eq_true_iff.mp g2
      obtain ⟨g5, g6⟩ := Bool.and_eq_true_iff.mp g4
      have e8 : n8 = .none := by
        cases n8 with
        | none => rfl
        | _ => cases g6
      simp only [Option.some.injEq, Prod.mk.injEq] at e2
      obtain ⟨h1, h2, h3, h4, h5, h6, h7, h8⟩ := e2
      subst h1 h2 h3 h4 h5 h6 h7 h8 e8
      exact ⟨_, ⟨oc, od, n9, n10, n11, n12, n13, n14, osl, rfl, q, g5⟩, g3⟩
    | _ => cases g
abbrev Ob : Type := Bool × List He.FnW
def see (fa : List (Frag → Bool)) (ds : List Dd) (K : Frag) : Ob := ((fa.all fun f => f K) && ds.all fun d => d.good K, ds.map fun d => d.fnd K)
def want (ds : List Dd) : Ob := (true, ds.map Dd.due)
def Told (fa : List (Frag → Bool)) (ds : List Dd) (K : Frag) : Prop := see fa ds K = want ds
def seeG (n : Nat) (fa : List (Frag → Bool)) (ds : List Dd) (g : Addr → Option Obj) : Ob := see fa ds (He.frG g (sysModules :: He.asD g n))
def hook (n : Nat) (fa : List (Frag → Bool)) (ds : List Dd) : PySem.W.Hook where
  α := Ob
  obs := fun s => seeG n fa ds s.heap.get?
  val := fun _ => want ds
  says := fun _ h => ∃ K : Frag, K.In h ∧ Told fa ds K
  of := fun _ _ e => ⟨_, He.frG_in, e⟩
  keeps := fun _ _ _ ⟨K, hK, c⟩ k => ⟨K, PySem.W.Frag.In.keeps hK k, c⟩
def obT (n : Nat) (fa : List (Frag → Bool)) (ds : List Dd) (s : PySem.W.SharedT) : Ob := seeG n fa ds (HandSHeadRun.getT s)
theorem obT_eq {n : Nat} {fa : List (Frag → Bool)} {ds : List Dd} (s : PySem.W.SharedT) : obT n fa ds s = (hook n fa ds).obs s.abs := by
  have e : HandSHeadRun.getT s = s.abs.heap.get? := funext (HandSHeadRun.getT_eq s)
  show seeG n fa ds (HandSHeadRun.getT s) = seeG n fa ds s.abs.heap.get?
  rw [e]
section
variable {fa : List (Frag → Bool)} {ds : List Dd} {K : Frag}
theorem Told.fact (c : Told fa ds K) (i : Nat) {f : Frag → Bool} (h : fa[i]? = some f) : f K = true := by
  have c1 := congrArg (fun z : Ob => z.1) c
  have c2 := (Bool.and_eq_true_iff.mp (show ((fa.all fun f => f K) && ds.all fun d => d.good K) = true from c1)).1
  exact List.all_eq_true.mp c2 f (List.mem_of_getElem? h)
theorem Told.def_ (c : Told fa ds K) (i : Nat) {d : Dd} (h : ds[i]? = some d) : ∃ fd, Fun K d.name d.qual d.st (d.spot K) fd := by
  have c1 := congrArg (fun z : Ob => z.1) c
  have c2 := (Bool.and_eq_true_iff.mp (show ((fa.all fun f => f K) && ds.all fun d => d.good K) = true from c1)).2
  have e : ds.map (fun d => d.fnd K) = ds.map Dd.due := congrArg (fun z : Ob => z.2) c
  have e2 : (ds.map fun d => d.fnd K)[i]? = (ds.map Dd.due)[i]? := by rw [e]
  rw [List.getElem?_map, List.getElem?_map, h] at e2
  exact Dd.fun_ (Option.some.inj e2) (List.all_eq_true.mp c2 d (List.mem_of_getElem? h))
end
/-! facts -/
def fo (f : He.Fa) : Frag → Bool := fun K => f.ok K
/-- the property's getter -/
def ga2 (K : Frag) (C f : Str) : Addr := match PySem.W.recIn K (He.ma K (He.ga K C) f) "property" with
  | some (.ref g :: _) => g
  | _ => 0
def isRefHd (o : Option (List Value)) (g : Addr) : Bool := match o with
  | some (.ref h :: _) => decide (h = g)
  | _ => false
/-- the class C has the name f as a property -/
def propB (C f : Str) : Frag → Bool := fun K => He.eqO (PySem.W.findIn K (.ref (He.ga K C)) f) (some (some (.ref (He.ma K (He.ga K C) f)))) &&
  (He.eqO (PySem.W.specialIn K (.ref (He.ma K (He.ga K C) f)) "__get__") (some (some (.builtin "property.__get__"))) &&
  (decide (PySem.W.takesIn K (.ref (He.ma K (He.ga K C) f)) = some true) && isRefHd (PySem.W.recIn K (He.ma K (He.ga K C) f) "property") (ga2 K C f)))
theorem propB_ok {C f : Str} {K : Frag} (h : propB C f K = true) : PropOf K (He.ga K C) f (He.ma K (He.ga K C) f) (ga2 K C f) := by
  obtain ⟨h1, h⟩ := Bool.and_eq_true_iff.mp h
  obtain ⟨h2, h⟩ := Bool.and_eq_true_iff.mp h
  obtain ⟨h3, h4⟩ := Bool.and_eq_true_iff.mp h
  refine ⟨He.eqO_ok h1, He.eqO_ok h2, of_decide_eq_true h3, ?_⟩
  unfold isRefHd at h4
  cases q : PySem.W.recIn K (He.ma K (He.ga K C) f) "property" with
  | none => rw [q] at h4; cases h4
  | some l =>
    rw [q] at h4
    cases l with
    | nil => cases h4
    | cons v r =>
      cases v with
      | ref g =>
        have e : g = ga2 K C f := of_decide_eq_true h4
        exact ⟨r, by rw [e]⟩
      | _ => cases h4
/-- how the law's def binds, at every heap -/
theorem bindsA {K : Frag} {x qual : Str} {st : Stmt} {f : Addr} {fd : FuncData} {ps : List Str} (F : Fun K x qual st f fd)
    (h : ∀ (kV doc pm : Value) (an : Option Addr) (cdv ct : Value) (us : List Value), us.length = ps.length → bindArgs (PySem.W.fnOf x qual (defArgs st) (defBody st) (defScope st) .none kV doc pm an cdv ct) ⟨us, []⟩ = pure (ps.zip us))
    (s : Shared) (us : List Value) (hl : us.length = ps.length) : BindsTo s fd ⟨us, []⟩ (ps.zip us) := by
  obtain ⟨_, _, kV, doc, pm, an, cdv, ct, _, e, _⟩ := F.ex
  subst e
  exact BindsTo.of_eq (h kV doc pm an cdv ct us hl)
end Oh

namespace Oh
open PySem PySem.Spec PyProof.Rows L2
/-- a class's __init__ that says super(): the class's name, its field, the def -/
structure Sd where
  cls : Str
  fld : Str
  qual : Str
  st : Stmt
abbrev Sd.spot (d : Sd) (K : Frag) : Addr := He.ma K (He.ga K d.cls) "__init__"
def Sd.fnd (d : Sd) (K : Frag) : He.FnW := (K.lookup (d.spot K)).bind fun o => match o.data with
  | .func fd => some (fd.name, fd.qualname, fd.params, fd.body, fd.scope, fd.globals, [], fd.builtins)
  | _ => none
def Sd.due (d : Sd) : He.FnW := some ("__init__", d.qual, defArgs d.st, .stmts (defBody d.st), defScope d.st, mainGlobals, [], builtinsNs)
/-- the cell holds the class, the code is of the file -/
def cellB (K : Frag) (C : Addr) : List (Str × Addr) → Bool
  | [(n, cc)] => decide (n = "__class__") && (match K.lookup cc with
    | some o => (match o.data with
      | .cell (some (.ref D)) => decide (D = C)
      | _ => false)
    | none => false)
  | _ => false
def fileB (K : Frag) (file : Str) : Value → Bool
  | .ref cda => (match K.lookup cda with
    | some o => (match o.data with
      | .fields vs => (match (vs[2]? : Option Value) with
        | some (Value.str f _) => decide (f = file)
        | _ => false)
      | _ => false)
    | none => false)
  | _ => false
def Sd.good (d : Sd) (file : Str) (K : Frag) : Bool := match K.lookup (d.spot K) with
  | some o => (match o.data with
    | .func fd => cellB K (He.ga K d.cls) fd.closure && (fileB K file fd.code && (PySem.W.codeIn K fd.code d.qual && isNon fd.defaults))
    | _ => false)
  | none => false
/-- the class's object -/
def oexB (K : Frag) (C : Addr) : Bool := match K.lookup C with
  | some ⟨.type "type", _, .cls cd, sl⟩ => (match cd.mro, sl.toList with
    | .ref C' :: bm, [_, _, _, _, some (.builtin n), _] => C' == C && n == "ValueError.__new__" && !cd.hasDel && cd.hasDict && PySem.HandSPX.refsVE bm
    | _, _ => false)
  | _ => false
/-- all that the written part says of the class, as one Bool -/
def supB (x y : Str) : Frag → Bool := fun K =>
  oexB K (He.ga K x) && (He.eqO (PySem.W.findIn K (.ref (He.ga K x)) "__setattr__") (some (some (.builtin "object.__setattr__"))) && (He.eqO (PySem.W.findIn K (.ref (He.ga K x)) "__getattribute__") (some (some (.builtin "BaseException.__getattribute__"))) &&
  (He.eqO (PySem.W.findIn K (.ref (He.ga K x)) "__getattr__") (some none) && (He.eqO (PySem.W.findIn K (.ref (He.ga K x)) y) (some none) && (He.eqO (PySem.W.findIn K (.ref (He.ga K x)) "__init__") (some (some (.ref (He.ma K (He.ga K x) "__init__")))) &&
  (decide (PySem.W.typeIn K (.ref (He.ma K (He.ga K x) "__init__")) = some (.type "function")) && (PySem.W.keepIn K (.ref (He.ga K x)) && (decide (PySem.W.subIn K (.ref (He.ga K x)) (.type "BaseException") = some true) && (decide (PySem.W.subIn K (.ref (He.ga K x)) (.type "ValueError") = some true) &&
  (decide (PySem.W.mroIn K (He.ga K x) (.ref (He.ga K x)) = some true) && (decide (PySem.W.typeIn K (.ref (He.ga K x)) = some (.type "type")) && (PySem.W.hasDictIn K (He.ga K x) && (He.eqO (PySem.W.nsIn K PySem.cStatics "thirdparty.any") (some none) &&
  He.eqO (PySem.W.ks_superIn K (He.ga K x) (He.ga K x) "__init__") (some (some (.builtin "ValueError.__init__"))))))))))))))))
def see2 (file : Str) (fa : List (Frag → Bool)) (ds : List Dd) (ss : List Sd) (K : Frag) : Ob := ((fa.all fun f => f K) && (ds.all (fun d => d.good K) && ss.all fun d => d.good file K), ds.map (fun d => d.fnd K) ++ ss.map fun d => d.fnd K)
def want2 (ds : List Dd) (ss : List Sd) : Ob := (true, ds.map Dd.due ++ ss.map Sd.due)
def Told2 (file : Str) (fa : List (Frag → Bool)) (ds : List Dd) (ss : List Sd) (K : Frag) : Prop := see2 file fa ds ss K = want2 ds ss
def seeG2 (n : Nat) (file : Str) (fa : List (Frag → Bool)) (ds : List Dd) (ss : List Sd) (g : Addr → Option Obj) : Ob := see2 file fa ds ss (He.frG g (cStatics :: sysModules :: He.asD g n))
def hook2 (n : Nat) (file : Str) (fa : List (Frag → Bool)) (ds : List Dd) (ss : List Sd) : PySem.W.Hook where
  α := Ob
  obs := fun s => seeG2 n file fa ds ss s.heap.get?
  val := fun _ => want2 ds ss
  says := fun _ h => ∃ K : Frag, K.In h ∧ Told2 file fa ds ss K
  of := fun _ _ e => ⟨_, He.frG_in, e⟩
  keeps := fun _ _ _ ⟨K, hK, c⟩ k => ⟨K, PySem.W.Frag.In.keeps hK k, c⟩
def obT2 (n : Nat) (file : Str) (fa : List (Frag → Bool)) (ds : List Dd) (ss : List Sd) (s : PySem.W.SharedT) : Ob := seeG2 n file fa ds ss (HandSHeadRun.getT s)
theorem obT2_eq {n : Nat} {file : Str} {fa : List (Frag → Bool)} {ds : List Dd} {ss : List Sd} (s : PySem.W.SharedT) : obT2 n file fa ds ss s = (hook2 n file fa ds ss).obs s.abs := by
  have e : HandSHeadRun.getT s = s.abs.heap.get? := funext (HandSHeadRun.getT_eq s)
  show seeG2 n file fa ds ss (HandSHeadRun.getT s) = seeG2 n file fa ds ss s.abs.heap.get?
  rw [e]
end Oh
namespace Oh
open PySem PySem.Spec PyProof.Rows L2
/-! the hook over places that are told by number -/
def hookA2 (as : List Addr) (file : Str) (fa : List (Frag → Bool)) (ds : List Dd) (ss : List Sd) : PySem.W.Hook where
  α := Ob
  obs := fun s => see2 file fa ds ss (He.frG s.heap.get? as)
  val := fun _ => want2 ds ss
  says := fun _ h => ∃ K : Frag, K.In h ∧ Told2 file fa ds ss K
  of := fun _ _ e => ⟨_, He.frG_in, e⟩
  keeps := fun _ _ _ ⟨K, hK, c⟩ k => ⟨K, PySem.W.Frag.In.keeps hK k, c⟩
def obTA2 (as : List Addr) (file : Str) (fa : List (Frag → Bool)) (ds : List Dd) (ss : List Sd) (s : PySem.W.SharedT) : Ob := see2 file fa ds ss (He.frG (HandSHeadRun.getT s) as)
theorem obTA2_eq {as : List Addr} {file : Str} {fa : List (Frag → Bool)} {ds : List Dd} {ss : List Sd} (s : PySem.W.SharedT) : obTA2 as file fa ds ss s = (hookA2 as file fa ds ss).obs s.abs := by
  have e : HandSHeadRun.getT s = s.abs.heap.get? := funext (HandSHeadRun.getT_eq s)
  show see2 file fa ds ss (He.frG (HandSHeadRun.getT s) as) = see2 file fa ds ss (He.frG s.abs.heap.get? as)
  rw [e]
end Oh

namespace Ox
open PySem PySem.Spec PyProof.Rows L2
def iscB (C : Str) : PySem.W.Frag → Bool := fun K => (He.Fa.cls C).ok K && (He.eqO (PySem.W.findIn K (.ref (He.ga K C)) "__class__") (some (some (.builtin "object.__class__"))) && (He.eqO (PySem.W.specialIn K (.builtin "object.__class__") "__get__") (some (some (.builtin "getset_descriptor.__get__"))) &&
  (decide (PySem.W.takesIn K (.builtin "object.__class__") = some true) && decide (PySem.W.mroIn K (He.ga K C) (.type "object") = some true))))
def kitF (C D : Str) (b : Bool) : PySem.W.Frag → Bool := fun K => decide (PySem.W.kitOne K (.ref (He.ga K C)) (.ref (He.ga K D)) = some b)
abbrev veB : List Value := [.type "ValueError", .type "Exception", .type "BaseException", .type "object"]
def exc0F (x : Str) : PySem.W.Frag → Bool := fun K => PySem.W.excIn K (He.ga K x) veB "ValueError.__new__" && (PySem.W.keepIn K (.ref (He.ga K x)) && (decide (PySem.W.subIn K (.ref (He.ga K x)) (.type "BaseException") = some true) && decide (PySem.W.typeIn K (.ref (He.ga K x)) = some (.type "type"))))
def excCF (x : Str) : PySem.W.Frag → Bool := fun K => xfB K (He.ga K x) && (He.eqO (PySem.W.findIn K (.ref (He.ga K x)) "__class__") (some (some (.builtin "object.__class__"))) && (He.eqO (PySem.W.specialIn K (.builtin "object.__class__") "__get__") (some (some (.builtin "getset_descriptor.__get__"))) &&
  (decide (PySem.W.takesIn K (.builtin "object.__class__") = some true) && decide (PySem.W.mroIn K (He.ga K x) (.type "object") = some true))))
def exmF (C D : Str) (b : Bool) : PySem.W.Frag → Bool := fun K => decide (PySem.W.exmOne K (.ref (He.ga K C)) (.ref (He.ga K D)) = some b)
def kitTF (C : Str) (T : String) (b : Bool) : PySem.W.Frag → Bool := fun K => decide (PySem.W.kitOne K (.ref (He.ga K C)) (.type T) = some b)
end Ox
namespace Law
open PySem PySem.Spec PyProof.Rows L2 Ox
def top (i : Nat) : Stmt := PySem.Challenge.pw_ownslips_k07_wishes_judged.main.body.getD i (.Pass ⟨0, 0, 0, 0⟩)
abbrev s_is_integer : Stmt := top 1
abbrev s_is_name : Stmt := top 2
abbrev s_is_value : Stmt := top 7
abbrev s_are_worths : Stmt := top 8
abbrev s_Wish_init : Stmt := inClass (top 9) 0
abbrev s_Wish_worths : Stmt := inClass (top 9) 1
abbrev s_Wish_eq : Stmt := inClass (top 9) 2
abbrev s_pool : Stmt := top 11
abbrev s_draw : Stmt := top 12
abbrev s_word : Stmt := top 13
abbrev s_words : Stmt := top 14
abbrev s_endless : Stmt := top 15
abbrev s_l_is_int : Stmt := top 16
abbrev s_l_thing : Stmt := top 17
abbrev s_l_is_name : Stmt := top 18
abbrev s_l_key : Stmt := top 19
abbrev s_l_is_value : Stmt := top 20
abbrev s_l_is_good : Stmt := top 21
abbrev s_l_drawn_worths : Stmt := top 22
abbrev s_l_spoil_wish : Stmt := top 23
abbrev s_law : Stmt := top 24
end Law
/-! the head -/
namespace Law
open PySem PySem.Spec PyProof.Rows L2 Ox
def d_law : Oh.Dd := ⟨fun K => He.ga K "law", "law", "law", s_law⟩
def d_Wish_worths : Oh.Dd := ⟨fun K => Oh.ga2 K "Wish" "worths", "worths", "Wish.worths", s_Wish_worths⟩
def d_pool : Oh.Dd := ⟨fun K => He.ga K "_law_pool", "_law_pool", "_law_pool", s_pool⟩
def d_draw : Oh.Dd := ⟨fun K => He.ga K "_law_draw", "_law_draw", "_law_draw", s_draw⟩
def d_l_drawn_worths : Oh.Dd := ⟨fun K => He.ga K "_law_drawn_worths", "_law_drawn_worths", "_law_drawn_worths", s_l_drawn_worths⟩
def d_words : Oh.Dd := ⟨fun K => He.ga K "_law_words", "_law_words", "_law_words", s_words⟩
def d_word : Oh.Dd := ⟨fun K => He.ga K "_law_word", "_law_word", "_law_word", s_word⟩
def d_endless : Oh.Dd := ⟨fun K => He.ga K "_law_endless", "_law_endless", "_law_endless", s_endless⟩
def d_l_spoil_wish : Oh.Dd := ⟨fun K => He.ga K "_law_spoil_wish", "_law_spoil_wish", "_law_spoil_wish", s_l_spoil_wish⟩
def d_l_thing : Oh.Dd := ⟨fun K => He.ga K "_law_thing", "_law_thing", "_law_thing", s_l_thing⟩
def d_l_key : Oh.Dd := ⟨fun K => He.ga K "_law_key", "_law_key", "_law_key", s_l_key⟩
def d_Wish_init : Oh.Dd := ⟨fun K => He.ma K (He.ga K "Wish") "__init__", "__init__", "Wish.__init__", s_Wish_init⟩
def d_are_worths : Oh.Dd := ⟨fun K => He.ga K "are_worths", "are_worths", "are_worths", s_are_worths⟩
def d_is_name : Oh.Dd := ⟨fun K => He.ga K "is_name", "is_name", "is_name", s_is_name⟩
def d_is_value : Oh.Dd := ⟨fun K => He.ga K "is_value", "is_value", "is_value", s_is_value⟩
def d_is_integer : Oh.Dd := ⟨fun K => He.ga K "is_integer", "is_integer", "is_integer", s_is_integer⟩
def d_l_is_good : Oh.Dd := ⟨fun K => He.ga K "_law_is_good", "_law_is_good", "_law_is_good", s_l_is_good⟩
def d_l_is_name : Oh.Dd := ⟨fun K => He.ga K "_law_is_name", "_law_is_name", "_law_is_name", s_l_is_name⟩
def d_l_is_value : Oh.Dd := ⟨fun K => He.ga K "_law_is_value", "_law_is_value", "_law_is_value", s_l_is_value⟩
def d_l_is_int : Oh.Dd := ⟨fun K => He.ga K "_law_is_int", "_law_is_int", "_law_is_int", s_l_is_int⟩
abbrev ds0 : List Oh.Dd := [d_law, d_Wish_worths, d_pool, d_draw, d_l_drawn_worths, d_words, d_word, d_endless, d_l_spoil_wish, d_l_thing, d_l_key, d_Wish_init, d_are_worths, d_is_name, d_is_value, d_is_integer, d_l_is_good, d_l_is_name, d_l_is_value, d_l_is_int]
abbrev dsA : List Oh.Dd := ds0
abbrev fa0 : List (Oh.Frag → Bool) := [Oh.fo (.glo "law"), Oh.fo (.free "range"), Oh.fo (.free "dict"), Oh.fo (.free "all"), Oh.fo (.free "bool"), Oh.fo (.free "isinstance"), Oh.fo (.free "repr"), Oh.fo (.free "ValueError"), fun K => (K.lookup sysModules).isSome, Oh.fo (.glo "BadWish"), Oh.fo (.glo "OwnError"), excCF "BadWish", exmF "BadWish" "BadWish" true, kitF "BadWish" "OwnError" true, kitTF "BadWish" "ValueError" true, Oh.fo (.cls "Wish"), Oh.fo (.noat "Wish" "endless"), Oh.fo (.noat "Wish" "coming"), Oh.fo (.noat "Wish" "table"), Oh.propB "Wish" "worths", Oh.fo (.free "len"), Oh.fo (.free "int"), Oh.fo (.free "min"), Oh.fo (.glo "_law_pool"), Oh.fo (.glo "_law_draw"), Oh.fo (.free "str"), Oh.fo (.glo "_law_word"), Oh.fo (.glo "_law_words"), Oh.fo (.glo "_law_drawn_worths"), Oh.fo (.free "max")]
abbrev fa1 : List (Oh.Frag → Bool) := [Oh.fo (.glo "_law_endless"), Oh.fo (.free "list"), Oh.fo (.glo "_law_thing"), Oh.fo (.glo "_law_key"), Oh.fo (.glo "_law_spoil_wish"), Oh.fo (.free "sorted"), exc0F "BadWish", Oh.fo (.glo "is_name"), Oh.fo (.glo "is_integer"), Oh.fo (.glo "is_value"), Oh.fo (.glo "are_worths"), Oh.fo (.mkr "Wish"), Oh.fo (.glo "Wish"), Oh.fo (.glo "_law_is_name"), Oh.fo (.glo "_law_is_int"), Oh.fo (.glo "_law_is_value"), Oh.fo (.glo "_law_is_good")]
abbrev faA : List (Oh.Frag → Bool) := fa0 ++ fa1
abbrev lo0 : List Str := ["is_integer", "is_name", "OwnError", "BadWish", "is_value", "are_worths", "Wish", "_law_pool", "_law_draw", "_law_word", "_law_words", "_law_endless", "_law_is_int", "_law_thing", "_law_is_name", "_law_key", "_law_is_value", "_law_is_good", "_law_drawn_worths", "_law_spoil_wish"]
abbrev loA : List Str := lo0
abbrev ssA : List Oh.Sd := []
abbrev Rw : PySem.W.OpenRow := PySem.W.OpenLaw.row PySem.Challenge.rw_ownslips_k07_wishes_judged
abbrev as0 : List Addr := [2, 1, 3, 6, 4, 21, 28, 38, 51, 60, 67, 95, 106, 113, 120, 127, 132, 139, 146, 151, 158, 165, 170, 177, 184, 189, 0, 20, 27, 37, 50, 59, 66, 94, 105, 112, 119, 126, 131, 138, 145, 150, 157, 164, 169, 176, 183, 188, 15, 16, 17, 18, 19, 22, 23, 24, 25, 26, 36, 39, 49, 54, 55, 56, 57, 58, 61, 62, 63, 64, 65, 79, 85, 92, 93, 96, 97, 100, 101, 102, 103, 104, 107, 108, 109, 110, 111, 114, 115, 116, 117, 118, 121, 122, 123, 124, 125, 128, 129, 130]
abbrev as1 : List Addr := [133, 134, 135, 136, 137, 140, 141, 142, 143, 144, 147, 148, 149, 152, 153, 154, 155, 156, 159, 160, 161, 162, 163, 166, 167, 168, 171, 172, 173, 174, 175, 178, 179, 180, 181, 182, 185, 186, 187, 78, 84, 91, 75, 76, 77, 83, 86, 87, 88, 89, 90, 80, 81, 82]
abbrev asA : List Addr := as0 ++ as1
abbrev hk : PySem.W.Hook := Oh.hookA2 asA "/claim/cut.py" faA dsA ssA
def ob (s : PySem.W.SharedT) : Oh.Ob := Oh.obTA2 asA "/claim/cut.py" faA dsA ssA s
theorem ob_eq (s : PySem.W.SharedT) : ob s = hk.obs s.abs := Oh.obTA2_eq s
theorem run (w : World) : HandSHeadRun.RunEq Rw (PySem.W.view Rw.prog [24]) hk ob 6000 loA w := by
  intro os
  kernel_rfl
end Law
namespace Law
open PySem PySem.W PySem.Calls PyProof.Rows
theorem hz1 : opening (PySem.W.OpenLaw.row PySem.Challenge.rw_ownslips_k07_wishes_judged).prog = plainProg (PySem.W.OpenLaw.row PySem.Challenge.rw_ownslips_k07_wishes_judged).prog.main.scope.names := by kernel_rfl
theorem hz2 : ∀ s, fenceModules? (PySem.W.OpenLaw.row PySem.Challenge.rw_ownslips_k07_wishes_judged).prog s = some s := fun s => by kernel_rfl
theorem hz3 : defOf (view (PySem.W.OpenLaw.row PySem.Challenge.rw_ownslips_k07_wishes_judged).prog [24]) (PySem.W.OpenLaw.row PySem.Challenge.rw_ownslips_k07_wishes_judged).name = some ((HandSHeadRun.topDef (PySem.W.OpenLaw.row PySem.Challenge.rw_ownslips_k07_wishes_judged).prog 24), []) := by kernel_rfl
theorem hz4 : (PySem.W.OpenLaw.row PySem.Challenge.rw_ownslips_k07_wishes_judged).prog.theDef (PySem.W.OpenLaw.row PySem.Challenge.rw_ownslips_k07_wishes_judged).name = some ((HandSHeadRun.topDef (PySem.W.OpenLaw.row PySem.Challenge.rw_ownslips_k07_wishes_judged).prog 24).params, (HandSHeadRun.topDef (PySem.W.OpenLaw.row PySem.Challenge.rw_ownslips_k07_wishes_judged).prog 24).body, (HandSHeadRun.topDef (PySem.W.OpenLaw.row PySem.Challenge.rw_ownslips_k07_wishes_judged).prog 24).scope) := by kernel_rfl
theorem hz5 : kwWritten? (HandSHeadRun.topDef (PySem.W.OpenLaw.row PySem.Challenge.rw_ownslips_k07_wishes_judged).prog 24).params.kwonlyargs (HandSHeadRun.topDef (PySem.W.OpenLaw.row PySem.Challenge.rw_ownslips_k07_wishes_judged).prog 24).params.kw_defaults = some [] := by kernel_rfl
theorem hz6 : (!(PySem.W.OpenLaw.row PySem.Challenge.rw_ownslips_k07_wishes_judged).writes || (PySem.W.OpenLaw.row PySem.Challenge.rw_ownslips_k07_wishes_judged).records.isEmpty) = true := by rfl
theorem hz7 : (PySem.W.OpenLaw.row PySem.Challenge.rw_ownslips_k07_wishes_judged).wellSaid = true := by decide +kernel
theorem hz8 : (chainsOk (view (PySem.W.OpenLaw.row PySem.Challenge.rw_ownslips_k07_wishes_judged).prog [24]) && opensWell (PySem.W.OpenLaw.row PySem.Challenge.rw_ownslips_k07_wishes_judged).prog && (frees (PySem.W.OpenLaw.row PySem.Challenge.rw_ownslips_k07_wishes_judged).toRowW && (PySem.W.OpenLaw.row PySem.Challenge.rw_ownslips_k07_wishes_judged).within.isEmpty)) = true := by decide +kernel
theorem hz9 : (PySem.W.OpenLaw.row PySem.Challenge.rw_ownslips_k07_wishes_judged).prog.bare := ⟨rfl, rfl, rfl, rfl, rfl, by decide +kernel⟩
theorem hz10 : (PySem.W.OpenLaw.row PySem.Challenge.rw_ownslips_k07_wishes_judged).toRowW.promised := by w_witness2
theorem hz0 (h : (PySem.W.OpenLaw.row PySem.Challenge.rw_ownslips_k07_wishes_judged).Holds) : PySem.Challenge.rw_ownslips_k07_wishes_judged.Holds := by
  w_on; o_law
  exact h
end Law

/-! Own layer: steps through a reading, one small lemma a construct, so that a tactic can take them by the goal's head. -/
namespace Ox
open PySem PySem.Spec PyProof.Rows L2
/-! ### further operators -/
section
variable {X : Cx}
theorem op_mulA : OpR X (binaryOp .Mult) (rI IntMulOk fun i j => .int (i * j)) := opI fun _ _ _ _ _ _ _ hc q => mul_int q hc
theorem op_fdivA : OpR X (binaryOp .FloorDiv) (rI CDivW fun i j => .int (i / j)) := op_fdivW
def CPowW (i j : Int) : Prop := 0 ≤ j ∧ (Builtin.Int.intBits i : Int) * j ≤ 2 ^ 27
theorem op_powW : OpR X (binaryOp .Pow) (rI CPowW fun i j => .int (i ^ j.toNat)) := opI fun _ _ _ _ _ _ _ hc q => pow_int hc.1 hc.2 q
end
theorem mulok_l {i j : Int} (h1 : -(2 ^ 63) ≤ i) (h2 : i < 2 ^ 63) : IntMulOk i j := CMul.ok (.inl ⟨by omega, by omega⟩)
theorem mulok_r {i j : Int} (h1 : -(2 ^ 63) ≤ j) (h2 : j < 2 ^ 63) : IntMulOk i j := CMul.ok (.inr ⟨by omega, by omega⟩)
theorem divok {i j : Int} (h : 0 < j) (h2 : j < 2 ^ 62) : CDivW i j := wide_div (b := 62) h (by omega) (by decide) (by decide)
/-! ### callees -/
section
variable (P : Program) (w : World) (K : PySem.W.Frag) (mg : Str → Option Value) (base : Heap)
/-- the module's name x is a def of level k that keeps the promise sp -/
structure Cal (k : Nat) (x : Str) (ps : List Str) (sp : Sp) : Prop where
  ex : ∃ f fd, FnOk P w K mg base CX0 k f fd ps sp ∧ mg x = some (.ref f) ∧ PySem.W.keepIn K (.ref f) = true ∧ Binds K fd ps []
/-- the module's name x is the class at C, made by an __init__ of level k -/
structure Mkc (C : Addr) (k : Nat) (x : Str) (ps : List Str) (sp : Sp) : Prop where
  ex : ∃ f fd, Mk K C f ∧ FnOk P w K mg base CX0 k f fd ps sp ∧ mg x = some (.ref C) ∧ Binds K fd ps []
structure Met (C : Addr) (k : Nat) (m : Str) (ps : List Str) (sp : Sp) : Prop where
  ex : ∃ f fd, Meth K C m f ∧ FnOk P w K mg base CX0 k f fd ps sp ∧ Binds K fd ps []
structure Prp (C : Addr) (k : Nat) (m : Str) (sp : Sp) : Prop where
  ex : ∃ p f fd, PropOf K C m p f ∧ FnOk P w K mg base CX0 k f fd ["self"] sp ∧ Binds K fd ["self"] []
end
section
variable {X : Cx} {k : Nat} {x : Str} {ps : List Str} {sp : Sp} {e : Expr} {es : List Expr} {t : TA} {pos p : Pos} {C : Addr} {ta : TE} {m : Str}
theorem pe_cal (c : Cal X.prog X.w X.K X.mg X.base k x ps sp) (hr : Room k X.A) (hg : Gl X x) (ha : PA X (e :: es) t)
    (hs : starEach (e :: es) X.env = (false, eval e X.env) :: starEach es X.env := by rfl) (hp : (backTo pos (starEach es X.env)).any (·.1) = false := by rfl)
    (hdb : (x == ("__debug__" : Str)) = false := by decide) : PE X (.Call (.Name x p) (e :: es) [] pos) (tCall sp [] E0 t) := by
  obtain ⟨f, fd, F, g, kp, b⟩ := c.ex
  exact pe_call F hr hg g kp b .nil pass0 ha hdb hs hp
theorem pe_cal0 (c : Cal X.prog X.w X.K X.mg X.base k x ps sp) (hr : Room k X.A) (hg : Gl X x)
    (hdb : (x == ("__debug__" : Str)) = false := by decide) : PE X (.Call (.Name x p) [] [] pos) (tCall sp [] E0 tNil) := by
  obtain ⟨f, fd, F, g, kp, b⟩ := c.ex
  exact pe_call0 F hr hg g kp b .nil pass0 hdb
theorem pe_mk (c : Mkc X.prog X.w X.K X.mg X.base C k x ps sp) (hr : Room (k + 1) X.A) (hg : Gl X x) (ha : PA X (e :: es) t)
    (hs : starEach (e :: es) X.env = (false, eval e X.env) :: starEach es X.env := by rfl) (hp : (backTo pos (starEach es X.env)).any (·.1) = false := by rfl)
    (hdb : (x == ("__debug__" : Str)) = false := by decide) : PE X (.Call (.Name x p) (e :: es) [] pos) (tMake C sp [] E0 t) := by
  obtain ⟨f, fd, M, F, g, b⟩ := c.ex
  exact pe_make M F hr hg g b .nil pass0 ha hdb hs hp
theorem pe_prp {p' : Expr} (c : Prp X.prog X.w X.K X.mg X.base C k m sp) (kc : Cls X.K C) (hr : Room (k + 1) X.A) (he : PE X p' ta)
    (hab : attributeBase p' m X.env (eval p' X.env) = eval p' X.env := by rfl) : PE X (.Attribute p' m pos) (tProp C sp [] E0 ta) := by
  obtain ⟨q, f, fd, hp, F, b⟩ := c.ex
  exact pe_prop he kc hp F hr b .nil pass0 hab
end
/-! ### steps -/
section
variable {σ : L2.St} {H : Hp} {Q : VK} {i : Nat} {v x y : V} {ta tb te tc : TE} {n : L2.St → Hp → Prop} {r : VK} {b c : L2.St → Hp → Prop} {t u : TS} {tt tu : TT} {R : Bool → Hp → Prop} {K : PySem.W.Frag} {al : TA} {W : List V → Hp → Prop}
theorem x_var (h : σ[i]? = some (some v)) (q : Q v H) : tVar i σ H Q := ⟨v, h, q⟩
theorem x_c (q : Q v H) : tC v σ H Q := q
theorem x_op {o : R2} (q : ta σ H fun x H1 => tb σ H1 fun y H2 => o x y H2 Q) : tOp o ta tb σ H Q := q
theorem x_un {o : V → Hp → VK → Prop} (q : ta σ H fun x H1 => o x H1 Q) : tUn o ta σ H Q := q
theorem x_I0 {g : Int → Int → V} {i j : Int} (q : Q (g i j) H) : rI0 g (.int i) (.int j) H Q := ⟨i, j, rfl, rfl, q⟩
theorem x_I {C : Int → Int → Prop} {g : Int → Int → V} {i j : Int} (hc : C i j) (q : Q (g i j) H) : rI C g (.int i) (.int j) H Q := ⟨i, j, rfl, rfl, hc, q⟩
theorem x_U {g : Int → V} {i : Int} (q : Q (g i) H) : rU g (.int i) H Q := ⟨i, rfl, q⟩
theorem x_eqI {i j : Int} (q : Q (.bl (decide (i = j))) H) : rEq (.int i) (.int j) H Q := ⟨rfl, by rw [show decide (V.int i = V.int j) = decide (i = j) from by simp]; exact q⟩
theorem x_eqS {i j : Str} (q : Q (.bl (decide (i = j))) H) : rEq (.str i) (.str j) H Q := ⟨rfl, by rw [show decide (V.str i = V.str j) = decide (i = j) from by simp]; exact q⟩
theorem x_eqB {i j : Bool} (q : Q (.bl (decide (i = j))) H) : rEq (.bl i) (.bl j) H Q := ⟨rfl, by rw [show decide (V.bl i = V.bl j) = decide (i = j) from by simp]; exact q⟩
theorem x_neI {i j : Int} (q : Q (.bl (!decide (i = j))) H) : rNe (.int i) (.int j) H Q := ⟨rfl, by rw [show decide (V.int i = V.int j) = decide (i = j) from by simp]; exact q⟩
theorem x_neS {i j : Str} (q : Q (.bl (!decide (i = j))) H) : rNe (.str i) (.str j) H Q := ⟨rfl, by rw [show decide (V.str i = V.str j) = decide (i = j) from by simp]; exact q⟩
theorem x_neB {i j : Bool} (q : Q (.bl (!decide (i = j))) H) : rNe (.bl i) (.bl j) H Q := ⟨rfl, by rw [show decide (V.bl i = V.bl j) = decide (i = j) from by simp]; exact q⟩
theorem x_bl {k : Bool} (q : R k H) : ∃ c, V.bl k = V.bl c ∧ R c H := ⟨k, rfl, q⟩
theorem x_test (q : te σ H fun x H1 => ∃ k, x = .bl k ∧ R k H1) : tTest te σ H R := q
theorem x_B (q : te σ H fun x H1 => ∃ k, x = .bl k ∧ R k H1) : tB te σ H R := q
theorem x_not (q : tt σ H fun c H1 => R (!c) H1) : tNot tt σ H R := q
theorem x_and (q : tt σ H fun c H1 => if c = true then tu σ H1 R else R false H1) : tAnd tt tu σ H R := q
theorem x_or (q : tt σ H fun c H1 => if c = true then R true H1 else tu σ H1 R) : tOr tt tu σ H R := q
theorem x_andV (q : ta σ H fun x H1 => ∃ c, x = .bl c ∧ if c = true then tb σ H1 Q else Q (.bl false) H1) : tAndV ta tb σ H Q := q
theorem x_orV (q : ta σ H fun x H1 => ∃ c, x = .bl c ∧ if c = true then Q (.bl true) H1 else tb σ H1 Q) : tOrV ta tb σ H Q := q
theorem x_notV (q : ta σ H fun x H1 => ∃ c, x = .bl c ∧ Q (.bl (!c)) H1) : tNotV ta σ H Q := q
theorem x_blV {k : Bool} {F : Bool → Prop} (q : F k) : ∃ c, V.bl k = V.bl c ∧ F c := ⟨k, rfl, q⟩
theorem x_ifE (q : tt σ H fun c H1 => if c = true then ta σ H1 Q else tb σ H1 Q) : tIf tt ta tb σ H Q := q
theorem x_chain {o o' : R2} (q : ta σ H fun x H1 => tb σ H1 fun y H2 => o x y H2 fun z H3 => ∃ k, z = .bl k ∧ (if k = true then tc σ H3 fun w' H4 => o' y w' H4 Q else Q (.bl false) H3)) : tChain o o' ta tb tc σ H Q := q
theorem x_nil (q : W [] H) : tNil σ H W := q
theorem x_cons {ar : TA} (q : ta σ H fun x H1 => ar σ H1 fun xs H2 => W (x :: xs) H2) : tCons ta ar σ H W := q
theorem x_tup (q : al σ H fun xs H1 => xs.length ≤ sizeLine ∧ ∀ p, H1 p = none → Q (.ref p) (upd H1 p (.tup xs))) : tTup al σ H Q := q
theorem x_lst (q : al σ H fun xs H1 => xs.length ≤ sizeLine ∧ ∀ p, H1 p = none → Q (.ref p) (upd H1 p (.lst xs))) : tLst al σ H Q := q
theorem x_cb {o : List V → Hp → VK → Prop} (q : al σ H fun vs H1 => o vs H1 Q) : tCB o al σ H Q := q
theorem x_call {sp : Sp} {E : XK} (q : al σ H fun vs H1 => sp vs H1 Q E) : tCall sp [] E al σ H Q := by
  show al σ H fun vs H1 => sp (vs ++ []) H1 Q E
  have e : (fun (vs : List V) (H1 : Hp) => sp (vs ++ []) H1 Q E) = fun vs H1 => sp vs H1 Q E := by
    funext vs H1
    rw [List.append_nil]
  rw [e]
  exact q
theorem x_make {C : Addr} {sp : Sp} {E : XK} (q : al σ H fun vs H1 => ∀ x dx, H1 x = none → H1 dx = none → dx ≠ x → sp (.ref x :: vs) (upd (upd H1 dx (.own x)) x (.ins C dx [])) (fun v H2 => v = .non ∧ Q (.ref x) H2) E) : tMake C sp [] E al σ H Q := by
  have e : (fun (vs : List V) (H1 : Hp) => ∀ x dx, H1 x = none → H1 dx = none → dx ≠ x → sp (.ref x :: (vs ++ [])) (upd (upd H1 dx (.own x)) x (.ins C dx [])) (fun v H2 => v = .non ∧ Q (.ref x) H2) E) =
      fun (vs : List V) (H1 : Hp) => ∀ x dx, H1 x = none → H1 dx = none → dx ≠ x → sp (.ref x :: vs) (upd (upd H1 dx (.own x)) x (.ins C dx [])) (fun v H2 => v = .non ∧ Q (.ref x) H2) E := by
    funext vs H1
    rw [List.append_nil]
  show al σ H fun vs H1 => ∀ x dx, H1 x = none → H1 dx = none → dx ≠ x → sp (.ref x :: (vs ++ [])) (upd (upd H1 dx (.own x)) x (.ins C dx [])) (fun v H2 => v = .non ∧ Q (.ref x) H2) E
  rw [e]
  exact q
/-! ### statements -/
theorem x_seq (h : t ⟨u ⟨n, r, b, c⟩, r, b, c⟩ σ H) : tSeq t u ⟨n, r, b, c⟩ σ H := h
theorem x_next (h : n σ H) : tNext ⟨n, r, b, c⟩ σ H := h
theorem x_brk (h : b σ H) : tBreak ⟨n, r, b, c⟩ σ H := h
theorem x_cont (h : c σ H) : tCont ⟨n, r, b, c⟩ σ H := h
theorem x_ret (h : te σ H r) : tRet te ⟨n, r, b, c⟩ σ H := h
theorem x_retN (h : r .non H) : tRetN ⟨n, r, b, c⟩ σ H := h
theorem x_drop (h : te σ H fun _ H1 => n σ H1) : tDrop te ⟨n, r, b, c⟩ σ H := h
theorem x_set (h : te σ H fun v H1 => n (σ.set i (some v)) H1) : tAsg te (gName i) ⟨n, r, b, c⟩ σ H := h
theorem x_if (h : tt σ H fun k H1 => if k = true then t ⟨n, r, b, c⟩ σ H1 else u ⟨n, r, b, c⟩ σ H1) : tIfS tt t u ⟨n, r, b, c⟩ σ H := h
theorem x_nx (h : n σ H) : (Ends.mk n r b c).nx σ H := h
theorem x_par {i j : Nat} (h : al σ H fun vs H1 => ∃ v w, vs = [v, w] ∧ n ((σ.set i (some v)).set j (some w)) H1) : tPar i j al ⟨n, r, b, c⟩ σ H := h
theorem x_par2 {F : V → V → Prop} {v w : V} (h : F v w) : ∃ v' w', [v, w] = [v', w'] ∧ F v' w' := ⟨v, w, rfl, h⟩
theorem x_aug {j : Nat} {tip : TIp} (hx : σ[j]? = some (some x)) (h : te σ H fun y H1 => tip x y H1 fun z H2 => n (σ.set j (some z)) H2) : tAug j te tip ⟨n, r, b, c⟩ σ H := ⟨x, hx, h⟩
theorem x_ipI {f : Int → Int → Int} {i j : Int} (q : Q (.int (f i j)) H) : ipI f (.int i) (.int j) H Q := ⟨i, j, rfl, rfl, q⟩
/-- xs[i] = v -/
theorem x_setL (h : te σ H fun v H0 => ta σ H0 fun o H1 => tb σ H1 fun k H2 => rSetL o k v H2 fun H3 => n σ H3) : tAsg te (gSub ta tb rSetL) ⟨n, r, b, c⟩ σ H := h
theorem x_setl {l : Addr} {xs : List V} {j : Nat} {k : Int} {N : Hp → Prop} (h : H l = some (.lst xs)) (hk : k = (j : Int)) (hj : j < xs.length) (q : N (upd H l (.lst (xs.set j v)))) : rSetL (.ref l) (.int k) v H N :=
  ⟨l, xs, k, j, rfl, rfl, h, by subst hk; unfold ixN; rw [if_pos (by omega), if_pos (by omega)]; simp, q⟩
/-- a test decided -/
theorem x_ite {A B : Prop} {k : Bool} (h1 : k = true → A) (h2 : k = false → B) : if k = true then A else B := by
  cases k with
  | true => exact h1 rfl
  | false =>
    show if false = true then A else B
    rw [if_neg Bool.false_ne_true]
    exact h2 rfl
theorem x_dec {A B p : Prop} [Decidable p] (h1 : p → A) (h2 : ¬ p → B) : if decide p = true then A else B := x_ite (fun e => h1 (of_decide_eq_true e)) fun e => h2 (of_decide_eq_false e)
theorem x_ndec {A B p : Prop} [Decidable p] (h1 : ¬ p → A) (h2 : p → B) : if (!decide p) = true then A else B := x_ite (fun e => h1 (of_decide_eq_false (by simpa using e))) fun e => h2 (of_decide_eq_true (by simpa using e))
theorem x_yes {A B p : Prop} [Decidable p] (hp : p) (h1 : A) : if decide p = true then A else B := x_dec (fun _ => h1) fun z => absurd hp z
theorem x_no {A B p : Prop} [Decidable p] (hp : ¬ p) (h2 : B) : if decide p = true then A else B := x_dec (fun z => absurd z hp) fun _ => h2
theorem x_T {A B : Prop} (h : A) : if true = true then A else B := x_ite (fun _ => h) fun z => by cases z
theorem x_F {A B : Prop} (h : B) : if false = true then A else B := x_ite (fun z => by cases z) fun _ => h
theorem x_nT {A B : Prop} (h : B) : if (!true) = true then A else B := x_F h
theorem x_nF {A B : Prop} (h : A) : if (!false) = true then A else B := x_T h
theorem x_nyes {A B p : Prop} [Decidable p] (hp : p) (h2 : B) : if (!decide p) = true then A else B := x_ndec (fun z => absurd hp z) fun _ => h2
theorem x_nno {A B p : Prop} [Decidable p] (hp : ¬ p) (h1 : A) : if (!decide p) = true then A else B := x_ndec (fun _ => h1) fun z => absurd z hp
/-! ### values of built-ins -/
theorem x_ixL {p : Addr} {xs : List V} {k : Int} (h : SqL K H p xs) (ha : atI xs k = some v) (q : Q v H) : rIxL K (.ref p) (.int k) H Q := ⟨p, xs, k, v, rfl, rfl, h, ha, q⟩
theorem x_ixT {p : Addr} {xs : List V} {k : Int} (h : SqT K H p xs) (ha : atI xs k = some v) (q : Q v H) : rIxT K (.ref p) (.int k) H Q := ⟨p, xs, k, v, rfl, rfl, h, ha, q⟩
theorem x_ixS {z : Str} {k : Int} {d : Nat} (h : z.length ≤ sizeLine) (ha : atI z.cps.toList k = some d) (q : Q (.str ⟨#[d]⟩) H) : rIxS (.str z) (.int k) H Q := ⟨z, k, d, rfl, rfl, h, ha, q⟩
theorem x_bm {T : String} {o : V → List V → Hp → VK → Prop} (q : ta σ H fun x H1 => tyV K T x H1 ∧ al σ H1 fun xs H2 => o x xs H2 Q) : tBM K T o ta al σ H Q := q
theorem x_bm0 {T : String} {o : V → List V → Hp → VK → Prop} (q : ta σ H fun x H1 => tyV K T x H1 ∧ o x [] H1 Q) : tBM0 K T o ta σ H Q := q
theorem x_tyL {p : Addr} {xs : List V} {A : Prop} (h : SqL K H p xs) (q : A) : tyV K "list" (.ref p) H ∧ A := ⟨.inl ⟨rfl, xs, h⟩, q⟩
theorem x_app {l : Addr} {xs : List V} (h : H l = some (.lst xs)) (hl : xs.length < sizeLine) (q : Q .non (upd H l (.lst (xs ++ [y])))) : rAppend (.ref l) [y] H Q := ⟨l, xs, y, rfl, rfl, h, hl, q⟩
theorem x_popAt {l : Addr} {xs : List V} {j : Nat} {k : Int} (h : H l = some (.lst xs)) (hk : k = (j : Int)) (hj : xs[j]? = some y) (hs : xs.length ≤ 10000) (q : Q y (upd H l (.lst (xs.eraseIdx j)))) : rPopAt (.ref l) [.int k] H Q := by
  have hlt : j < xs.length := (List.getElem?_eq_some_iff.mp hj).1
  subst hk
  refine ⟨l, xs, _, j, y, rfl, rfl, h, by omega, by omega, ?_, hj, q⟩
  unfold seqIndex?
  first
    | (rw [if_neg (by omega), if_pos (by omega)]; simp)
    | (simp; omega)
    | (simp [hlt])
end
/-! ### loops, each by a word over turn, slots and heap -/
section
variable {σ : L2.St} {H : Hp} {te : TE} {n : L2.St → Hp → Prop} {r : VK} {b c : L2.St → Hp → Prop} {tb : TS} {g : TG} {K : PySem.W.Frag} {al : TA} {p : Addr}
/-- the loop over what J tells -/
def Lp (J : It) (g : TG) (tb : TS) (D : Ends) (σ : L2.St) (H : Hp) : Prop := ∃ W : Nat → Nat → L2.St → Hp → Prop, (∃ m, W 0 m σ H) ∧ ∀ i m σ H, W i m σ H →
  (J.stop i H ∧ D.nx σ H) ∨ (J.go i H ∧ ∃ N : L2.St → Hp → Prop, (∀ σ' H', N σ' H' → ∃ m', m' < m ∧ W (i + 1) m' σ' H') ∧ ∀ x H', J.yld i H x H' → g x σ H' fun σ2 H2 => tb { D with nx := N, ct := N, bk := D.nx } σ2 H2)
def LpL (K : PySem.W.Frag) (g : TG) (tb : TS) (D : Ends) (σ : L2.St) (x : V) (H : Hp) : Prop := ∃ a, x = .ref a ∧ (∃ xs, SqL K H a xs) ∧ Lp (Itl K a) g tb D σ H
def LpT (K : PySem.W.Frag) (g : TG) (tb : TS) (D : Ends) (σ : L2.St) (x : V) (H : Hp) : Prop := ∃ a, x = .ref a ∧ (∃ xs, SqT K H a xs) ∧ Lp (Itt K a) g tb D σ H
def LpR (g : TG) (tb : TS) (D : Ends) (σ : L2.St) (vs : List V) (H : Hp) : Prop := ∃ j : Int, vs = [.int j] ∧ -(2 ^ 62) ≤ j ∧ j < 2 ^ 62 ∧ Lp (Itr 0 j.toNat) g tb D σ H
def LpR2 (g : TG) (tb : TS) (D : Ends) (σ : L2.St) (vs : List V) (H : Hp) : Prop := ∃ i j : Int, vs = [.int i, .int j] ∧ (-(2 ^ 62) ≤ i ∧ i < 2 ^ 62 ∧ -(2 ^ 62) ≤ j ∧ j < 2 ^ 62) ∧ Lp (Itr i (j - i).toNat) g tb D σ H
def LpS (g : TG) (tb : TS) (D : Ends) (σ : L2.St) (x : V) (H : Hp) : Prop := ∃ z, x = .str z ∧ Lp (Its z) g tb D σ H
def LpK (g : TG) (tb : TS) (D : Ends) (σ : L2.St) (x : V) (H : Hp) : Prop := ∃ d o, x = .ref d ∧ ((∃ kvs, H d = some (.frz o (.dK kvs)) ∧ Lp (Itk d o kvs) g tb D σ H) ∨ ∃ kvs, H d = some (.frz o (.dT kvs)) ∧ Lp (Itkt d o kvs) g tb D σ H)
def LpI (g : TG) (tb : TS) (D : Ends) (σ : L2.St) (x : V) (H : Hp) : Prop := ∃ d o kvs, x = .ref d ∧ H d = some (.frz o (.dK kvs)) ∧ Lp (Iti d o kvs) g tb D σ H
def LpV (g : TG) (tb : TS) (D : Ends) (σ : L2.St) (x : V) (H : Hp) : Prop := ∃ d o kvs, x = .ref d ∧ H d = some (.frz o (.dK kvs)) ∧ Lp (Itd d o kvs) g tb D σ H
theorem x_forL (h : te σ H fun x H1 => LpL K g tb ⟨n, r, b, c⟩ σ x H1) : tFor (iList K te) g tb ⟨n, r, b, c⟩ σ H := h
theorem x_forT (h : te σ H fun x H1 => LpT K g tb ⟨n, r, b, c⟩ σ x H1) : tFor (iTup K te) g tb ⟨n, r, b, c⟩ σ H := h
theorem x_forR (h : al σ H fun x H1 => LpR g tb ⟨n, r, b, c⟩ σ x H1) : tFor (iRng1 al) g tb ⟨n, r, b, c⟩ σ H := h
theorem x_forR2 (h : al σ H fun x H1 => LpR2 g tb ⟨n, r, b, c⟩ σ x H1) : tFor (iRng2 al) g tb ⟨n, r, b, c⟩ σ H := h
theorem x_forS (h : te σ H fun x H1 => LpS g tb ⟨n, r, b, c⟩ σ x H1) : tFor (iStr te) g tb ⟨n, r, b, c⟩ σ H := h
theorem x_forK (h : te σ H fun x H1 => LpK g tb ⟨n, r, b, c⟩ σ x H1) : tFor (iKeys te) g tb ⟨n, r, b, c⟩ σ H := h
theorem x_forI (h : te σ H fun x H1 => LpI g tb ⟨n, r, b, c⟩ σ x H1) : tFor (iItems te) g tb ⟨n, r, b, c⟩ σ H := h
theorem x_forV (h : te σ H fun x H1 => LpV g tb ⟨n, r, b, c⟩ σ x H1) : tFor (iVals te) g tb ⟨n, r, b, c⟩ σ H := h
/-- a name of the loop: the turn stores it -/
theorem lp_by {J : It} {m : Nat} {G : Hp → Prop} {Y : Nat → Hp → V → Hp → Prop} (w : L2.Walk J m G Y) (Pv : Nat → L2.St → Hp → Prop) (h0 : Pv 0 σ H) (hG : ∀ i σ H, i ≤ m → Pv i σ H → G H)
    (hs : ∀ i x σ H H', i < m → Pv i σ H → Y i H x H' → g x σ H' fun σ2 H2 => tb ⟨Pv (i + 1), r, n, Pv (i + 1)⟩ σ2 H2) (hd : ∀ σ H, Pv m σ H → n σ H) : Lp J g tb ⟨n, r, b, c⟩ σ H := L2.for_it w Pv h0 hG hs hd
theorem lpL {xs : List V} (Pv : Nat → L2.St → Hp → Prop) (h : SqL K H p xs) (h0 : Pv 0 σ H) (hG : ∀ i σ H, i ≤ xs.length → Pv i σ H → SqL K H p xs)
    (hs : ∀ i x σ H, xs[i]? = some x → Pv i σ H → g x σ H fun σ2 H2 => tb ⟨Pv (i + 1), r, n, Pv (i + 1)⟩ σ2 H2) (hd : ∀ σ H, Pv xs.length σ H → n σ H) : LpL K g tb ⟨n, r, b, c⟩ σ (.ref p) H :=
  ⟨p, rfl, ⟨xs, h⟩, lp_by walk_list Pv h0 hG (fun i x σ H H' _ hp y => by obtain ⟨rfl, e⟩ := y; exact hs i x σ _ e hp) hd⟩
theorem lpT {xs : List V} (Pv : Nat → L2.St → Hp → Prop) (h : SqT K H p xs) (h0 : Pv 0 σ H) (hG : ∀ i σ H, i ≤ xs.length → Pv i σ H → SqT K H p xs)
    (hs : ∀ i x σ H, xs[i]? = some x → Pv i σ H → g x σ H fun σ2 H2 => tb ⟨Pv (i + 1), r, n, Pv (i + 1)⟩ σ2 H2) (hd : ∀ σ H, Pv xs.length σ H → n σ H) : LpT K g tb ⟨n, r, b, c⟩ σ (.ref p) H :=
  ⟨p, rfl, ⟨xs, h⟩, lp_by walk_tup Pv h0 hG (fun i x σ H H' _ hp y => by obtain ⟨rfl, e⟩ := y; exact hs i x σ _ e hp) hd⟩
theorem lpR {j : Int} (Pv : Nat → L2.St → Hp → Prop) (hj : -(2 ^ 62) ≤ j ∧ j < 2 ^ 62) (h0 : Pv 0 σ H)
    (hs : ∀ i σ H, i < j.toNat → Pv i σ H → g (.int (i : Int)) σ H fun σ2 H2 => tb ⟨Pv (i + 1), r, n, Pv (i + 1)⟩ σ2 H2) (hd : ∀ σ H, Pv j.toNat σ H → n σ H) : LpR g tb ⟨n, r, b, c⟩ σ [.int j] H :=
  ⟨j, rfl, hj.1, hj.2, lp_by walk_range Pv h0 (fun _ _ _ _ _ => trivial) (fun i x σ H H' hi hp y => by
    obtain ⟨rfl, rfl⟩ := y
    dsimp only
    rw [Int.zero_add]
    exact hs i σ _ hi hp) hd⟩
theorem lpR2 {i0 j : Int} (Pv : Nat → L2.St → Hp → Prop) (hj : (-(2 ^ 62) ≤ i0 ∧ i0 < 2 ^ 62 ∧ -(2 ^ 62) ≤ j ∧ j < 2 ^ 62)) (h0 : Pv 0 σ H)
    (hs : ∀ i σ H, i < (j - i0).toNat → Pv i σ H → g (.int (i0 + (i : Int))) σ H fun σ2 H2 => tb ⟨Pv (i + 1), r, n, Pv (i + 1)⟩ σ2 H2) (hd : ∀ σ H, Pv (j - i0).toNat σ H → n σ H) : LpR2 g tb ⟨n, r, b, c⟩ σ [.int i0, .int j] H :=
  ⟨i0, j, rfl, hj, lp_by walk_range Pv h0 (fun _ _ _ _ _ => trivial) (fun i x σ H H' hi hp y => by
    obtain ⟨rfl, rfl⟩ := y
    exact hs i σ _ hi hp) hd⟩
theorem lpS {z : Str} (Pv : Nat → L2.St → Hp → Prop) (h0 : Pv 0 σ H)
    (hs : ∀ i d σ H, z.cps[i]? = some d → Pv i σ H → g (.str ⟨#[d]⟩) σ H fun σ2 H2 => tb ⟨Pv (i + 1), r, n, Pv (i + 1)⟩ σ2 H2) (hd : ∀ σ H, Pv z.cps.size σ H → n σ H) : LpS g tb ⟨n, r, b, c⟩ σ (.str z) H :=
  ⟨z, rfl, lp_by walk_str Pv h0 (fun _ _ _ _ _ => trivial) (fun i x σ H H' hi hp y => by
    obtain ⟨rfl, d, e, rfl⟩ := y
    exact hs i d σ _ e hp) hd⟩
theorem lpK {o : Obj} {kvs : List (Key × V)} (Pv : Nat → L2.St → Hp → Prop) (h : H p = some (.frz o (.dK kvs))) (h0 : Pv 0 σ H) (hG : ∀ i σ H, i ≤ kvs.length → Pv i σ H → H p = some (.frz o (.dK kvs)))
    (hs : ∀ i k v σ H, kvs[i]? = some (k, v) → Pv i σ H → g (kV k) σ H fun σ2 H2 => tb ⟨Pv (i + 1), r, n, Pv (i + 1)⟩ σ2 H2) (hd : ∀ σ H, Pv kvs.length σ H → n σ H) : LpK g tb ⟨n, r, b, c⟩ σ (.ref p) H :=
  ⟨p, o, rfl, .inl ⟨kvs, h, lp_by walk_keys Pv h0 hG (fun i x σ H H' _ hp y => by
    obtain ⟨rfl, k, v, e, rfl⟩ := y
    exact hs i k v σ _ e hp) hd⟩⟩
theorem lpV {o : Obj} {kvs : List (Key × V)} (Pv : Nat → L2.St → Hp → Prop) (h : H p = some (.frz o (.dK kvs))) (h0 : Pv 0 σ H) (hG : ∀ i σ H, i ≤ kvs.length → Pv i σ H → H p = some (.frz o (.dK kvs)))
    (hs : ∀ i k v σ H, kvs[i]? = some (k, v) → Pv i σ H → g v σ H fun σ2 H2 => tb ⟨Pv (i + 1), r, n, Pv (i + 1)⟩ σ2 H2) (hd : ∀ σ H, Pv kvs.length σ H → n σ H) : LpV g tb ⟨n, r, b, c⟩ σ (.ref p) H :=
  ⟨p, o, kvs, rfl, h, lp_by walk_values Pv h0 hG (fun i x σ H H' _ hp y => by
    obtain ⟨rfl, k, e⟩ := y
    exact hs i k x σ _ e hp) hd⟩
/-- the pairs, a new tuple each -/
theorem lpI {o : Obj} {kvs : List (Key × V)} (Pv : Nat → L2.St → Hp → Prop) (h : H p = some (.frz o (.dK kvs))) (h0 : Pv 0 σ H) (hG : ∀ i σ H, i ≤ kvs.length → Pv i σ H → H p = some (.frz o (.dK kvs)))
    (hs : ∀ i k v σ H T, kvs[i]? = some (k, v) → Pv i σ H → H T = none → g (.ref T) σ (upd H T (.tup [kV k, v])) fun σ2 H2 => tb ⟨Pv (i + 1), r, n, Pv (i + 1)⟩ σ2 H2) (hd : ∀ σ H, Pv kvs.length σ H → n σ H) : LpI g tb ⟨n, r, b, c⟩ σ (.ref p) H :=
  ⟨p, o, kvs, rfl, h, lp_by walk_items Pv h0 hG (fun i x σ H H' hi hp y => by
    obtain ⟨T, k, v, rfl, hT, rfl, e1, e2⟩ := y
    dsimp only at e1 e2
    cases e : kvs[i]? with
    | none => rw [e] at e1; cases e1
    | some kv =>
      rw [e] at e1 e2
      have e3 : kV kv.1 = k := Option.some.inj e1
      have e4 : kv.2 = v := Option.some.inj e2
      subst e3 e4
      exact hs i kv.1 kv.2 σ _ T e hp hT) hd⟩
theorem x_g1 {v : V} {i : Nat} {N : L2.St → Hp → Prop} (h : N (σ.set i (some v)) H) : gName i v σ H N := h
theorem x_g2 {T : Addr} {v w : V} {i j : Nat} {N : L2.St → Hp → Prop} (ht : SqT K H T [v, w]) (h : N ((σ.set i (some v)).set j (some w)) H) : gTup K 2 (gCons (gName i) (gCons (gName j) gNil)) (.ref T) σ H N :=
  ⟨T, [v, w], rfl, ht, rfl, v, [w], rfl, w, [], rfl, rfl, h⟩
end
/-! ### heaps: all but one kept -/
def But (p : Addr) (H H' : Hp) : Prop := ∀ b o, H b = some o → b ≠ p → H' b = some o
theorem But.refl {p : Addr} {H : Hp} : But p H H := fun _ _ h _ => h
theorem But.trans {p : Addr} {H H1 H2 : Hp} (a : But p H H1) (b : But p H1 H2) : But p H H2 := fun q o h e => b q o (a q o h e) e
theorem But.at_ {p : Addr} {H H' : Hp} {o : HO} (a : But p H H') : But p H (upd H' p o) := fun q u h e => by rw [upd_ne e]; exact a q u h e
theorem But.new {p q : Addr} {H H' : Hp} {o : HO} (a : But p H H') (h : H' q = none) : But p H (upd H' q o) := fun b u hb e => by
  have h1 := a b u hb e
  rw [upd_ne (ne_of_none h1 h)]
  exact h1
theorem But.of_same {p : Addr} {H H' : Hp} (a : L2.Same H H') : But p H H' := fun b o h _ => a b o h
theorem But.lst {K : PySem.W.Frag} {p q : Addr} {xs : List V} {H H' : Hp} (a : But p H H') (e : q ≠ p) (h : SqL K H q xs) : SqL K H' q xs := by
  rcases h with (h | ⟨o, h⟩) | h
  · exact .inl (.inl (a _ _ h e))
  · exact .inl (.inr ⟨o, a _ _ h e⟩)
  · exact .inr h
theorem ne_old {H : Hp} {a b : Addr} {o : HO} (h' : H b = none) (h : H a = some o) : a ≠ b := ne_of_none h h'
theorem ne_two {H : Hp} {a b : Addr} {o u : HO} (h : H a = some o) (h' : H b = some u) (d : o ≠ u) : a ≠ b := ne_of h h' d
/-! ### named readings of rules (so that a step can be told by its head) -/
def rLenA (K : PySem.W.Frag) : List V → Hp → VK → Prop := fun xs H Q => ∃ x n, xs = [x] ∧ LenV K x H n ∧ Q (.int n) H
def rLenDA : List V → Hp → VK → Prop := fun xs H Q => ∃ a kvs, xs = [V.ref a] ∧ Rd H a (.dK kvs) ∧ Q (.int kvs.length) H
def rIntA : List V → Hp → VK → Prop := fun xs H Q => (∃ i, xs = [.int i] ∧ Q (.int i) H) ∨ ∃ k, xs = [.bl k] ∧ Q (.int (if k then 1 else 0)) H
def rStrIA : List V → Hp → VK → Prop := fun xs H Q => ∃ i, xs = [.int i] ∧ i.natAbs.log2 < 1920 ∧ Q (.str (toString i)) H
def rAbsA : List V → Hp → VK → Prop := fun xs H Q => ∃ i, xs = [.int i] ∧ Q (.int (if i < 0 then -i else i)) H
def rMax2A : List V → Hp → VK → Prop := fun xs H Q => ∃ i j, xs = [.int i, .int j] ∧ Q (.int (if j > i then j else i)) H
def rMin2A : List V → Hp → VK → Prop := fun xs H Q => ∃ i j, xs = [.int i, .int j] ∧ Q (.int (if j < i then j else i)) H
def rListA (K : PySem.W.Frag) : List V → Hp → VK → Prop := fun xs H Q => ∃ p ys, xs = [.ref p] ∧ (SqL K H p ys ∨ SqT K H p ys) ∧ ∀ l, H l = none → Q (.ref l) (upd H l (.lst ys))
def rTupleA (K : PySem.W.Frag) : List V → Hp → VK → Prop := fun xs H Q => ∃ p ys, xs = [.ref p] ∧ ((SqL K H p ys ∧ ∀ l, H l = none → Q (.ref l) (upd H l (.tup ys))) ∨ (SqT K H p ys ∧ Q (.ref p) H))
def rDictA : List V → Hp → VK → Prop := fun xs H Q => ∃ (a : Addr) (kvs : List (Key × V)), xs = [.ref a] ∧ Rd H a (.dK kvs) ∧ ∀ p, H p = none → Q (.ref p) (upd H p (.dK kvs))
def rStr2 (g : Str → Str → Bool) : R2 := fun x y H Q => ∃ i j, x = .str i ∧ y = .str j ∧ Q (.bl (g i j)) H
def rAddSA : R2 := fun x y H Q => ∃ i j, x = .str i ∧ y = .str j ∧ i.length + j.length ≤ sizeLine ∧ Q (.str (i ++ j)) H
def rInSA : R2 := fun x y H Q => ∃ (c : Nat) (z : Str), x = .str ⟨#[c]⟩ ∧ y = .str z ∧ Q (.bl (decide (c ∈ z.cps.toList))) H
def rNinSA : R2 := fun x y H Q => ∃ (c : Nat) (z : Str), x = .str ⟨#[c]⟩ ∧ y = .str z ∧ Q (.bl (!decide (c ∈ z.cps.toList))) H
def rIsNA : R2 := fun x y H Q => y = .non ∧ Q (.bl (decide (x = .non))) H
def rNotNA : R2 := fun x y H Q => y = .non ∧ Q (.bl (!decide (x = .non))) H
section
variable {X : Cx}
theorem call_lenA : CallR X (.builtin "len") (rLenA X.K) := call_len
theorem call_lenDA : CallR X (.builtin "len") rLenDA := by
  intro pins s σ H xs us Q I r h
  obtain ⟨a, kvs, rfl, ha, q⟩ := h
  obtain ⟨u, rfl, ru⟩ := vals1 r
  cases ru
  exact d_len I ha fun t s' I' => ⟨.int kvs.length, H, I', ⟨t, rfl⟩, q⟩
theorem call_intA : CallR X (.type "int") rIntA := call_int1
theorem call_strIA : CallR X (.type "str") rStrIA := call_str_int
theorem call_absA : CallR X (.builtin "abs") rAbsA := call_abs
theorem call_max2A (hc : X.calm = true) : CallR X (.builtin "max") rMax2A := call_max2 hc
theorem call_min2A (hc : X.calm = true) : CallR X (.builtin "min") rMin2A := call_min2 hc
theorem call_listA : CallR X (.type "list") (rListA X.K) := call_list_of
theorem call_tupleA : CallR X (.type "tuple") (rTupleA X.K) := call_tuple_of
theorem call_dictA : CallR X (.type "dict") rDictA := call_dictD
theorem op_ltS : OpR X (compareOp .Lt) (rStr2 fun i j => decide (i.cps.toList < j.cps.toList)) := op_lt_str
theorem op_leS : OpR X (compareOp .LtE) (rStr2 fun i j => !decide (j.cps.toList < i.cps.toList)) := op_le_str
theorem op_gtS : OpR X (compareOp .Gt) (rStr2 fun i j => decide (j.cps.toList < i.cps.toList)) := op_gt_str
theorem op_geS : OpR X (compareOp .GtE) (rStr2 fun i j => !decide (i.cps.toList < j.cps.toList)) := op_ge_str
theorem op_addSA : OpR X (binaryOp .Add) rAddSA := op_add_str
theorem op_inSA : OpR X (compareOp .In) rInSA := op_in_sign
theorem op_ninSA : OpR X (compareOp .NotIn) rNinSA := op_notIn_sign
theorem op_isNA : OpR X (compareOp .Is) rIsNA := op_isN
theorem op_notNA : OpR X (compareOp .IsNot) rNotNA := op_notN
end
section
variable {σ : L2.St} {H : Hp} {Q : VK} {v x y : V} {ta : TE} {K : PySem.W.Frag}
theorem x_lenL {p : Addr} {xs : List V} (h : SqL K H p xs) (q : Q (.int xs.length) H) : rLenA K [V.ref p] H Q := ⟨_, _, rfl, .inl ⟨xs, h, rfl⟩, q⟩
theorem x_lenT {p : Addr} {xs : List V} (h : SqT K H p xs) (q : Q (.int xs.length) H) : rLenA K [V.ref p] H Q := ⟨_, _, rfl, .inr ⟨xs, h, rfl⟩, q⟩
theorem x_lenS {z : Str} (h : z.length ≤ sizeLine) (q : Q (.int z.length) H) : rLenA K [V.str z] H Q := ⟨_, _, rfl, ⟨h, rfl⟩, q⟩
theorem x_lenD {p : Addr} {kvs : List (Key × V)} (h : Rd H p (.dK kvs)) (q : Q (.int kvs.length) H) : rLenDA [V.ref p] H Q := ⟨p, kvs, rfl, h, q⟩
theorem x_intI {i : Int} (q : Q (.int i) H) : rIntA [V.int i] H Q := .inl ⟨i, rfl, q⟩
theorem x_strI {i : Int} (h : i.natAbs.log2 < 1920) (q : Q (.str (toString i)) H) : rStrIA [V.int i] H Q := ⟨i, rfl, h, q⟩
theorem x_abs {i : Int} (q : Q (.int (if i < 0 then -i else i)) H) : rAbsA [V.int i] H Q := ⟨i, rfl, q⟩
theorem x_max2 {i j : Int} (q : Q (.int (if j > i then j else i)) H) : rMax2A [V.int i, V.int j] H Q := ⟨i, j, rfl, q⟩
theorem x_min2 {i j : Int} (q : Q (.int (if j < i then j else i)) H) : rMin2A [V.int i, V.int j] H Q := ⟨i, j, rfl, q⟩
theorem x_str2 {g : Str → Str → Bool} {i j : Str} (q : Q (.bl (g i j)) H) : rStr2 g (.str i) (.str j) H Q := ⟨i, j, rfl, rfl, q⟩
theorem x_addS {i j : Str} (h : i.length + j.length ≤ sizeLine) (q : Q (.str (i ++ j)) H) : rAddSA (.str i) (.str j) H Q := ⟨i, j, rfl, rfl, h, q⟩
theorem x_inS {d : Nat} {z : Str} (q : Q (.bl (decide (d ∈ z.cps.toList))) H) : rInSA (.str ⟨#[d]⟩) (.str z) H Q := ⟨d, z, rfl, rfl, q⟩
theorem x_ninS {d : Nat} {z : Str} (q : Q (.bl (!decide (d ∈ z.cps.toList))) H) : rNinSA (.str ⟨#[d]⟩) (.str z) H Q := ⟨d, z, rfl, rfl, q⟩
theorem x_isN (q : Q (.bl (decide (x = .non))) H) : rIsNA x .non H Q := ⟨rfl, q⟩
theorem x_notN (q : Q (.bl (!decide (x = .non))) H) : rNotNA x .non H Q := ⟨rfl, q⟩
theorem x_listL {p : Addr} {xs : List V} (h : SqL K H p xs) (q : ∀ l, H l = none → Q (.ref l) (upd H l (.lst xs))) : rListA K [V.ref p] H Q := ⟨p, xs, rfl, .inl h, q⟩
theorem x_listT {p : Addr} {xs : List V} (h : SqT K H p xs) (q : ∀ l, H l = none → Q (.ref l) (upd H l (.lst xs))) : rListA K [V.ref p] H Q := ⟨p, xs, rfl, .inr h, q⟩
theorem x_tupL {p : Addr} {xs : List V} (h : SqL K H p xs) (q : ∀ l, H l = none → Q (.ref l) (upd H l (.tup xs))) : rTupleA K [V.ref p] H Q := ⟨p, xs, rfl, .inl ⟨h, q⟩⟩
theorem x_tupT {p : Addr} {xs : List V} (h : SqT K H p xs) (q : Q (.ref p) H) : rTupleA K [V.ref p] H Q := ⟨p, xs, rfl, .inr ⟨h, q⟩⟩
theorem x_dict {p : Addr} {kvs : List (Key × V)} (h : Rd H p (.dK kvs)) (q : ∀ l, H l = none → Q (.ref l) (upd H l (.dK kvs))) : rDictA [V.ref p] H Q := ⟨p, kvs, rfl, h, q⟩
def rFldA (K : PySem.W.Frag) (f : Str) (x : V) (H : Hp) (Q : VK) : Prop := ∃ a C dx fs v, x = .ref a ∧ H a = some (.ins C dx fs) ∧ Cls K C ∧ NoAttr K C f ∧ fs.lookup f = some v ∧ Q v H
theorem x_Fld {f : Str} (q : ta σ H fun x H1 => rFldA K f x H1 Q) : tFld K ta f σ H Q := q
theorem x_fld {a C dx : Addr} {fs : List (Str × V)} {f : Str} (hc : Cls K C) (hn : NoAttr K C f) (h : H a = some (.ins C dx fs)) (hl : fs.lookup f = some v) (q : Q v H) : rFldA K f (.ref a) H Q := ⟨a, C, dx, fs, v, rfl, h, hc, hn, hl, q⟩
end
end Ox
namespace Ox
open PySem PySem.Spec PyProof.Rows L2
theorem divok2 {i j : Int} (h : 0 < j) (h2 : j < 2 ^ 200) : CDivW i j := wide_div (b := 200) h (by omega) (by decide) (by decide)
end Ox
namespace Ox
open PySem PySem.Spec PyProof.Rows L2
section
variable {H : Hp} {Q : VK} {v : V} {K : PySem.W.Frag}
theorem x_ixl {p : Addr} {xs : List V} {k : Int} (j : Nat) (h : SqL K H p xs) (hk : k = (j : Int)) (ha : xs[j]? = some v) (q : Q v H) : rIxL K (.ref p) (.int k) H Q := x_ixL h (at_of hk ha) q
theorem x_ixt {p : Addr} {xs : List V} {k : Int} (j : Nat) (h : SqT K H p xs) (hk : k = (j : Int)) (ha : xs[j]? = some v) (q : Q v H) : rIxT K (.ref p) (.int k) H Q := x_ixT h (at_of hk ha) q
theorem x_ixs {z : Str} {k : Int} {d : Nat} (j : Nat) (h : z.length ≤ sizeLine) (hk : k = (j : Int)) (ha : z.cps.toList[j]? = some d) (q : Q (.str ⟨#[d]⟩) H) : rIxS (.str z) (.int k) H Q :=
  x_ixS h (by subst hk; exact atI_nat ha) q
end
end Ox
namespace Ox
open PySem PySem.Spec PyProof.Rows L2
theorem same_new {H : Hp} {p : Addr} {o : HO} (h : H p = none) : L2.Same H (upd H p o) := fun b u e => by rw [upd_ne (ne_of_none e h)]; exact e
/-- what H does not hold may change -/
theorem same_upd {H H' : Hp} {p : Addr} {o : HO} (s : L2.Same H H') (h : H p = none) : L2.Same H (upd H' p o) := fun b u e => by rw [upd_ne (ne_of_none e h)]; exact s b u e
theorem same_but {p : Addr} {H H1 H2 : Hp} (s : L2.Same H H1) (h : H p = none) (b : But p H1 H2) : L2.Same H H2 := fun q u e => b q u (s q u e) (ne_of_none e h)
theorem same_t {K : PySem.W.Frag} {H H' : Hp} {a : Addr} {xs : List V} (e : L2.Same H H') (h : SqT K H a xs) : SqT K H' a xs := by
  rcases h with (h | ⟨o, h⟩) | h
  · exact .inl (.inl (e _ _ h))
  · exact .inl (.inr ⟨o, e _ _ h⟩)
  · exact .inr h
theorem same_rd {H H' : Hp} {a : Addr} {u : HO} (e : L2.Same H H') (h : Rd H a u) : Rd H' a u := by
  rcases h with h | ⟨o, h⟩
  · exact .inl (e _ _ h)
  · exact .inr ⟨o, e _ _ h⟩
theorem but_rd {p : Addr} {H H' : Hp} {a : Addr} {u : HO} (e : But p H H') (n : a ≠ p) (h : Rd H a u) : Rd H' a u := by
  rcases h with h | ⟨o, h⟩
  · exact .inl (e _ _ h n)
  · exact .inr ⟨o, e _ _ h n⟩
theorem sz_le {n : Nat} (h : n ≤ 10000) : n ≤ sizeLine := Nat.le_trans h (by decide)
theorem sz_lt {n : Nat} (h : n < 10000) : n < sizeLine := Nat.lt_of_lt_of_le h (by decide)
end Ox
namespace Ox
open PySem PySem.Spec PyProof.Rows L2
theorem inV_strs (z : Str) (ws : List Str) : inV (.str z) (ws.map V.str) = decide (z ∈ ws) := by
  unfold inV
  induction ws with
  | nil => simp
  | cons a r ih =>
    rw [List.map_cons, List.any_cons, ih]
    show (a == z || decide (z ∈ r)) = decide (z ∈ a :: r)
    by_cases e : a = z
    · subst e
      simp
    · have e2 : (a == z) = false := by simpa using e
      have e3 : ¬ z = a := fun q => e q.symm
      rw [e2]
      simp [List.mem_cons, e3]
theorem flat_strs (ws : List Str) : (ws.map V.str).all flatV = true := by
  rw [List.all_map]
  exact List.all_eq_true.mpr fun _ _ => rfl
theorem inV_ints (z : Int) (ws : List Int) : inV (.int z) (ws.map V.int) = decide (z ∈ ws) := by
  unfold inV
  induction ws with
  | nil => simp
  | cons a r ih =>
    rw [List.map_cons, List.any_cons, ih]
    show (a == z || decide (z ∈ r)) = decide (z ∈ a :: r)
    by_cases e : a = z
    · subst e
      simp
    · have e2 : (a == z) = false := by simpa using e
      have e3 : ¬ z = a := fun q => e q.symm
      rw [e2]
      simp [List.mem_cons, e3]
theorem flat_ints (ws : List Int) : (ws.map V.int).all flatV = true := by
  rw [List.all_map]
  exact List.all_eq_true.mpr fun _ _ => rfl
section
variable {H : Hp} {Q : VK} {K : PySem.W.Frag} {p : Addr}
theorem x_inL {ws : List Str} {z : Str} (h : SqL K H p (ws.map V.str)) (q : Q (.bl (decide (z ∈ ws))) H) : rIn K false (.str z) (.ref p) H Q :=
  ⟨p, _, rfl, .inl h, rfl, flat_strs ws, by rw [inV_strs]; exact q⟩
theorem x_ninL {ws : List Str} {z : Str} (h : SqL K H p (ws.map V.str)) (q : Q (.bl (!decide (z ∈ ws))) H) : rIn K true (.str z) (.ref p) H Q :=
  ⟨p, _, rfl, .inl h, rfl, flat_strs ws, by rw [inV_strs]; exact q⟩
theorem x_inTs {ws : List Str} {z : Str} (h : SqT K H p (ws.map V.str)) (q : Q (.bl (decide (z ∈ ws))) H) : rIn K false (.str z) (.ref p) H Q :=
  ⟨p, _, rfl, .inr h, rfl, flat_strs ws, by rw [inV_strs]; exact q⟩
theorem x_inTi {ws : List Int} {z : Int} (h : SqT K H p (ws.map V.int)) (q : Q (.bl (decide (z ∈ ws))) H) : rIn K false (.int z) (.ref p) H Q :=
  ⟨p, _, rfl, .inr h, rfl, flat_ints ws, by rw [inV_ints]; exact q⟩
theorem x_ninTi {ws : List Int} {z : Int} (h : SqT K H p (ws.map V.int)) (q : Q (.bl (!decide (z ∈ ws))) H) : rIn K true (.int z) (.ref p) H Q :=
  ⟨p, _, rfl, .inr h, rfl, flat_ints ws, by rw [inV_ints]; exact q⟩
end
end Ox
namespace Ox
open PySem PySem.Spec PyProof.Rows L2
/-! ### comprehensions -/
section
variable {σ : L2.St} {H : Hp} {Q : VK} {te tk tv : TE} {n : L2.St → Hp → Prop} {r : VK} {b c : L2.St → Hp → Prop} {t : TS} {g : TG} {tt : TT} {K : PySem.W.Frag} {al : TA} {p D : Addr} {vs : List Nat} {wi : TI} {Qd : Hp → Prop}
def LcP (J : It) (g : TG) (tt : TT) (te : TE) (vs : List Nat) (σ : L2.St) (D : Addr) (Qd : Hp → Prop) (H1 : Hp) : Prop := ∃ W : Nat → Nat → Hp → Prop, (∃ m, W 0 m (upd H1 D (.lst []))) ∧ ∀ i m H, W i m H →
  (J.stop i H ∧ Qd H) ∨ (J.go i H ∧ ∃ Nx : Hp → Prop, (∀ H', Nx H' → ∃ m', m' < m ∧ W (i + 1) m' H') ∧ ∀ x H', J.yld i H x H' → g x (wipe σ vs) H' fun σ2 H2 => wipe σ2 vs = wipe σ vs ∧ tt σ2 H2 fun b H3 =>
    if b = true then te σ2 H3 fun y H4 => ∃ acc, H4 D = some (.lst acc) ∧ acc.length < sizeLine ∧ Nx (upd H4 D (.lst (acc ++ [y]))) else Nx H3)
def DcP (J : It) (g : TG) (tt : TT) (tk tv : TE) (vs : List Nat) (σ : L2.St) (D : Addr) (Qd : Hp → Prop) (H1 : Hp) : Prop := ∃ W : Nat → Nat → Hp → Prop, (∃ m, W 0 m (upd H1 D (.dK []))) ∧ ∀ i m H, W i m H →
  (J.stop i H ∧ Qd H) ∨ (J.go i H ∧ ∃ Nx : Hp → Prop, (∀ H', Nx H' → ∃ m', m' < m ∧ W (i + 1) m' H') ∧ ∀ x H', J.yld i H x H' → g x (wipe σ vs) H' fun σ2 H2 => wipe σ2 vs = wipe σ vs ∧ tt σ2 H2 fun b H3 =>
    if b = true then tk σ2 H3 fun y H4 => tv σ2 H4 fun z H5 => ∃ kvs k, y = kV k ∧ H5 D = some (.dK kvs) ∧ kvs.length < sizeLine ∧ Nx (upd H5 D (.dK (putK kvs k z))) else Nx H3)
theorem x_lc (h : wi σ H fun J H1 => ∀ D, H1 D = none → LcP J g tt te vs σ D (fun H2 => Q (.ref D) H2) H1) : tLc wi g tt te vs σ H Q := h
theorem x_dc (h : wi σ H fun J H1 => ∀ D, H1 D = none → DcP J g tt tk tv vs σ D (fun H2 => Q (.ref D) H2) H1) : tDc wi g tt tk tv vs σ H Q := h
theorem x_yes1 {R : Bool → Hp → Prop} (h : R true H) : tYes σ H R := h
def RunK (R : It → Hp → Prop) (x : V) (H : Hp) : Prop := ∃ d o, x = .ref d ∧ ((∃ kvs, H d = some (.frz o (.dK kvs)) ∧ R (Itk d o kvs) H) ∨ ∃ kvs, H d = some (.frz o (.dT kvs)) ∧ R (Itkt d o kvs) H)
def RunV (R : It → Hp → Prop) (x : V) (H : Hp) : Prop := ∃ d o kvs, x = .ref d ∧ H d = some (.frz o (.dK kvs)) ∧ R (Itd d o kvs) H
def RunI (R : It → Hp → Prop) (x : V) (H : Hp) : Prop := ∃ d o kvs, x = .ref d ∧ H d = some (.frz o (.dK kvs)) ∧ R (Iti d o kvs) H
def RunL (K : PySem.W.Frag) (R : It → Hp → Prop) (x : V) (H : Hp) : Prop := ∃ a, x = .ref a ∧ (∃ xs, SqL K H a xs) ∧ R (Itl K a) H
def RunT (K : PySem.W.Frag) (R : It → Hp → Prop) (x : V) (H : Hp) : Prop := ∃ a, x = .ref a ∧ (∃ xs, SqT K H a xs) ∧ R (Itt K a) H
def RunS (R : It → Hp → Prop) (x : V) (H : Hp) : Prop := ∃ z, x = .str z ∧ R (Its z) H
def RunR (R : It → Hp → Prop) (vs : List V) (H : Hp) : Prop := ∃ j : Int, vs = [.int j] ∧ -(2 ^ 62) ≤ j ∧ j < 2 ^ 62 ∧ R (Itr 0 j.toNat) H
theorem x_iK {R : It → Hp → Prop} (h : te σ H fun x H1 => RunK R x H1) : iKeys te σ H R := h
theorem x_iV {R : It → Hp → Prop} (h : te σ H fun x H1 => RunV R x H1) : iVals te σ H R := h
theorem x_iI {R : It → Hp → Prop} (h : te σ H fun x H1 => RunI R x H1) : iItems te σ H R := h
theorem x_iL {R : It → Hp → Prop} (h : te σ H fun x H1 => RunL K R x H1) : iList K te σ H R := h
theorem x_iT {R : It → Hp → Prop} (h : te σ H fun x H1 => RunT K R x H1) : iTup K te σ H R := h
theorem x_iS {R : It → Hp → Prop} (h : te σ H fun x H1 => RunS R x H1) : iStr te σ H R := h
theorem x_iR {R : It → Hp → Prop} (h : al σ H fun x H1 => RunR R x H1) : iRng1 al σ H R := h
theorem runK {R : It → Hp → Prop} {o : Obj} {kvs : List (Key × V)} (h : H p = some (.frz o (.dK kvs))) (q : R (Itk p o kvs) H) : RunK R (.ref p) H := ⟨p, o, rfl, .inl ⟨kvs, h, q⟩⟩
theorem runV {R : It → Hp → Prop} {o : Obj} {kvs : List (Key × V)} (h : H p = some (.frz o (.dK kvs))) (q : R (Itd p o kvs) H) : RunV R (.ref p) H := ⟨p, o, kvs, rfl, h, q⟩
theorem runI {R : It → Hp → Prop} {o : Obj} {kvs : List (Key × V)} (h : H p = some (.frz o (.dK kvs))) (q : R (Iti p o kvs) H) : RunI R (.ref p) H := ⟨p, o, kvs, rfl, h, q⟩
theorem runL {R : It → Hp → Prop} {xs : List V} (h : SqL K H p xs) (q : R (Itl K p) H) : RunL K R (.ref p) H := ⟨p, rfl, ⟨xs, h⟩, q⟩
theorem runT {R : It → Hp → Prop} {xs : List V} (h : SqT K H p xs) (q : R (Itt K p) H) : RunT K R (.ref p) H := ⟨p, rfl, ⟨xs, h⟩, q⟩
theorem runR {R : It → Hp → Prop} {j : Int} (h : -(2 ^ 62) ≤ j ∧ j < 2 ^ 62) (q : R (Itr 0 j.toNat) H) : RunR R [.int j] H := ⟨j, rfl, h.1, h.2, q⟩
theorem lc_by {J : It} {m : Nat} {G : Hp → Prop} {Y : Nat → Hp → V → Hp → Prop} (w : L2.Walk J m G Y) (Pv : Nat → Hp → Prop) (h0 : Pv 0 (upd H D (.lst []))) (hG : ∀ i H, i ≤ m → Pv i H → G H)
    (hs : ∀ i x H H', i < m → Pv i H → Y i H x H' → g x (wipe σ vs) H' fun σ2 H2 => wipe σ2 vs = wipe σ vs ∧ tt σ2 H2 fun b H3 =>
      if b = true then te σ2 H3 fun y H4 => ∃ acc, H4 D = some (.lst acc) ∧ acc.length < sizeLine ∧ Pv (i + 1) (upd H4 D (.lst (acc ++ [y]))) else Pv (i + 1) H3) (hd : ∀ H, Pv m H → Qd H) : LcP J g tt te vs σ D Qd H := L2.lc_it w Pv h0 hG hs hd
theorem dc_by {J : It} {m : Nat} {G : Hp → Prop} {Y : Nat → Hp → V → Hp → Prop} (w : L2.Walk J m G Y) (Pv : Nat → Hp → Prop) (h0 : Pv 0 (upd H D (.dK []))) (hG : ∀ i H, i ≤ m → Pv i H → G H)
    (hs : ∀ i x H H', i < m → Pv i H → Y i H x H' → g x (wipe σ vs) H' fun σ2 H2 => wipe σ2 vs = wipe σ vs ∧ tt σ2 H2 fun b H3 =>
      if b = true then tk σ2 H3 fun y H4 => tv σ2 H4 fun z H5 => ∃ kvs k, y = kV k ∧ H5 D = some (.dK kvs) ∧ kvs.length < sizeLine ∧ Pv (i + 1) (upd H5 D (.dK (putK kvs k z))) else Pv (i + 1) H3) (hd : ∀ H, Pv m H → Qd H) : DcP J g tt tk tv vs σ D Qd H := by
  refine ⟨fun i k H => k = m - i ∧ i ≤ m ∧ Pv i H, ⟨m, by simp, Nat.zero_le _, h0⟩, ?_⟩
  rintro i k H ⟨rfl, hi, hp⟩
  have q := hG i H hi hp
  by_cases hlt : i < m
  · exact .inr ⟨w.goes i H hlt q, Pv (i + 1), fun H' p' => ⟨m - (i + 1), by omega, rfl, hlt, p'⟩, fun x H' y => hs i x H H' hlt hp (w.yields i H x H' hlt q y)⟩
  · have e : i = m := by omega
    subst e
    exact .inl ⟨w.stops H q, hd H hp⟩
theorem lcK {o : Obj} {kvs : List (Key × V)} (Pv : Nat → Hp → Prop) (h0 : Pv 0 (upd H D (.lst []))) (hG : ∀ i H, i ≤ kvs.length → Pv i H → H p = some (.frz o (.dK kvs)))
    (hs : ∀ i k v H, kvs[i]? = some (k, v) → Pv i H → g (kV k) (wipe σ vs) H fun σ2 H2 => wipe σ2 vs = wipe σ vs ∧ tt σ2 H2 fun b H3 =>
      if b = true then te σ2 H3 fun y H4 => ∃ acc, H4 D = some (.lst acc) ∧ acc.length < sizeLine ∧ Pv (i + 1) (upd H4 D (.lst (acc ++ [y]))) else Pv (i + 1) H3) (hd : ∀ H, Pv kvs.length H → Qd H) : LcP (Itk p o kvs) g tt te vs σ D Qd H :=
  lc_by walk_keys Pv h0 hG (fun i x H H' _ hp y => by obtain ⟨rfl, k, v, e, rfl⟩ := y; exact hs i k v _ e hp) hd
theorem lcL {xs : List V} (Pv : Nat → Hp → Prop) (h0 : Pv 0 (upd H D (.lst []))) (hG : ∀ i H, i ≤ xs.length → Pv i H → SqL K H p xs)
    (hs : ∀ i x H, xs[i]? = some x → Pv i H → g x (wipe σ vs) H fun σ2 H2 => wipe σ2 vs = wipe σ vs ∧ tt σ2 H2 fun b H3 =>
      if b = true then te σ2 H3 fun y H4 => ∃ acc, H4 D = some (.lst acc) ∧ acc.length < sizeLine ∧ Pv (i + 1) (upd H4 D (.lst (acc ++ [y]))) else Pv (i + 1) H3) (hd : ∀ H, Pv xs.length H → Qd H) : LcP (Itl K p) g tt te vs σ D Qd H :=
  lc_by walk_list Pv h0 hG (fun i x H H' _ hp y => by obtain ⟨rfl, e⟩ := y; exact hs i x _ e hp) hd
theorem lcT {xs : List V} (Pv : Nat → Hp → Prop) (h0 : Pv 0 (upd H D (.lst []))) (hG : ∀ i H, i ≤ xs.length → Pv i H → SqT K H p xs)
    (hs : ∀ i x H, xs[i]? = some x → Pv i H → g x (wipe σ vs) H fun σ2 H2 => wipe σ2 vs = wipe σ vs ∧ tt σ2 H2 fun b H3 =>
      if b = true then te σ2 H3 fun y H4 => ∃ acc, H4 D = some (.lst acc) ∧ acc.length < sizeLine ∧ Pv (i + 1) (upd H4 D (.lst (acc ++ [y]))) else Pv (i + 1) H3) (hd : ∀ H, Pv xs.length H → Qd H) : LcP (Itt K p) g tt te vs σ D Qd H :=
  lc_by walk_tup Pv h0 hG (fun i x H H' _ hp y => by obtain ⟨rfl, e⟩ := y; exact hs i x _ e hp) hd
theorem dcK {o : Obj} {kvs : List (Key × V)} (Pv : Nat → Hp → Prop) (h0 : Pv 0 (upd H D (.dK []))) (hG : ∀ i H, i ≤ kvs.length → Pv i H → H p = some (.frz o (.dK kvs)))
    (hs : ∀ i k v H, kvs[i]? = some (k, v) → Pv i H → g (kV k) (wipe σ vs) H fun σ2 H2 => wipe σ2 vs = wipe σ vs ∧ tt σ2 H2 fun b H3 =>
      if b = true then tk σ2 H3 fun y H4 => tv σ2 H4 fun z H5 => ∃ kvs k, y = kV k ∧ H5 D = some (.dK kvs) ∧ kvs.length < sizeLine ∧ Pv (i + 1) (upd H5 D (.dK (putK kvs k z))) else Pv (i + 1) H3) (hd : ∀ H, Pv kvs.length H → Qd H) : DcP (Itk p o kvs) g tt tk tv vs σ D Qd H :=
  dc_by walk_keys Pv h0 hG (fun i x H H' _ hp y => by obtain ⟨rfl, k, v, e, rfl⟩ := y; exact hs i k v _ e hp) hd
theorem dcL {xs : List V} (Pv : Nat → Hp → Prop) (h0 : Pv 0 (upd H D (.dK []))) (hG : ∀ i H, i ≤ xs.length → Pv i H → SqL K H p xs)
    (hs : ∀ i x H, xs[i]? = some x → Pv i H → g x (wipe σ vs) H fun σ2 H2 => wipe σ2 vs = wipe σ vs ∧ tt σ2 H2 fun b H3 =>
      if b = true then tk σ2 H3 fun y H4 => tv σ2 H4 fun z H5 => ∃ kvs k, y = kV k ∧ H5 D = some (.dK kvs) ∧ kvs.length < sizeLine ∧ Pv (i + 1) (upd H5 D (.dK (putK kvs k z))) else Pv (i + 1) H3) (hd : ∀ H, Pv xs.length H → Qd H) : DcP (Itl K p) g tt tk tv vs σ D Qd H :=
  dc_by walk_list Pv h0 hG (fun i x H H' _ hp y => by obtain ⟨rfl, e⟩ := y; exact hs i x _ e hp) hd
theorem dcI {o : Obj} {kvs : List (Key × V)} (Pv : Nat → Hp → Prop) (h0 : Pv 0 (upd H D (.dK []))) (hG : ∀ i H, i ≤ kvs.length → Pv i H → H p = some (.frz o (.dK kvs)))
    (hs : ∀ i k v H T, kvs[i]? = some (k, v) → Pv i H → H T = none → g (.ref T) (wipe σ vs) (upd H T (.tup [kV k, v])) fun σ2 H2 => wipe σ2 vs = wipe σ vs ∧ tt σ2 H2 fun b H3 =>
      if b = true then tk σ2 H3 fun y H4 => tv σ2 H4 fun z H5 => ∃ kvs k, y = kV k ∧ H5 D = some (.dK kvs) ∧ kvs.length < sizeLine ∧ Pv (i + 1) (upd H5 D (.dK (putK kvs k z))) else Pv (i + 1) H3) (hd : ∀ H, Pv kvs.length H → Qd H) : DcP (Iti p o kvs) g tt tk tv vs σ D Qd H :=
  dc_by walk_items Pv h0 hG (fun i x H H' _ hp y => by
    obtain ⟨T, k, v, rfl, hT, rfl, e1, e2⟩ := y
    dsimp only at e1 e2
    cases e : kvs[i]? with
    | none => rw [e] at e1; cases e1
    | some kv =>
      rw [e] at e1 e2
      have e3 : kV kv.1 = k := Option.some.inj e1
      have e4 : kv.2 = v := Option.some.inj e2
      subst e3 e4
      exact hs i kv.1 kv.2 _ T e hp hT) hd
/-- a dict is held while it is walked -/
theorem x_lock {d : Addr} {u : HO} (h : H d = some u) (hm : Mut (some u)) (q : ∀ od, t ⟨fun σ' H' => H' d = some (.frz od u) ∧ n σ' (upd H' d u), fun v H' => H' d = some (.frz od u) ∧ r v (upd H' d u), fun σ' H' => H' d = some (.frz od u) ∧ b σ' (upd H' d u), fun σ' H' => H' d = some (.frz od u) ∧ c σ' (upd H' d u)⟩ σ (upd H d (.frz od u))) :
    tLock t ⟨n, r, b, c⟩ σ H := ⟨d, u, h, hm, q⟩
theorem x_lockE {d : Addr} {u : HO} (h : H d = some u) (hm : Mut (some u)) (q : ∀ od, te σ (upd H d (.frz od u)) fun v H' => H' d = some (.frz od u) ∧ Q v (upd H' d u)) : tLockE te σ H Q := ⟨d, u, h, hm, q⟩
/-! ### dicts -/
def rGetA (x y : V) (H : Hp) (Q : VK) : Prop := ∃ a v, x = .ref a ∧ DGet H a y (some v) ∧ Q v H
def rDinA (y x : V) (H : Hp) (Q : VK) : Prop := ∃ a o, x = .ref a ∧ DGet H a y o ∧ Q (.bl o.isSome) H
def rDninA (y x : V) (H : Hp) (Q : VK) : Prop := ∃ a o, x = .ref a ∧ DGet H a y o ∧ Q (.bl (!o.isSome)) H
def rDputA (x y v : V) (H : Hp) (N : Hp → Prop) : Prop := ∃ a H4, x = .ref a ∧ DPut H a y v H4 ∧ N H4
variable {td ty : TE} {x y v : V}
theorem x_dget (h : td σ H fun x H1 => ty σ H1 fun y H2 => rGetA x y H2 Q) : tDGet td ty σ H Q := h
theorem x_din (h : ty σ H fun y H1 => td σ H1 fun x H2 => rDinA y x H2 Q) : tDIn ty td σ H Q := h
theorem x_dnin (h : ty σ H fun y H1 => td σ H1 fun x H2 => rDninA y x H2 Q) : tDNotIn ty td σ H Q := h
theorem x_dput (h : tv σ H fun v H1 => td σ H1 fun x H2 => ty σ H2 fun y H3 => rDputA x y v H3 fun H4 => n σ H4) : sDPut td ty tv ⟨n, r, b, c⟩ σ H := h
theorem x_getS {kvs : List (Key × V)} {z : Str} (h : Rd H p (.dK kvs)) (e : valV kvs (Sum.inr z : Key) = some v) (q : Q v H) : rGetA (.ref p) (.str z) H Q := ⟨p, v, rfl, .inl ⟨kvs, Sum.inr z, h, rfl, e.symm⟩, q⟩
theorem x_dinS {kvs : List (Key × V)} {z : Str} (h : Rd H p (.dK kvs)) (q : Q (.bl (valV kvs (Sum.inr z : Key)).isSome) H) : rDinA (.str z) (.ref p) H Q := ⟨p, _, rfl, .inl ⟨kvs, Sum.inr z, h, rfl, rfl⟩, q⟩
theorem x_dninS {kvs : List (Key × V)} {z : Str} (h : Rd H p (.dK kvs)) (q : Q (.bl (!(valV kvs (Sum.inr z : Key)).isSome)) H) : rDninA (.str z) (.ref p) H Q := ⟨p, _, rfl, .inl ⟨kvs, Sum.inr z, h, rfl, rfl⟩, q⟩
theorem x_putS {kvs : List (Key × V)} {z : Str} {N : Hp → Prop} (h : H p = some (.dK kvs)) (hl : kvs.length < sizeLine) (q : N (upd H p (.dK (putK kvs (Sum.inr z : Key) v)))) : rDputA (.ref p) (.str z) v H N :=
  ⟨p, _, rfl, .inl ⟨kvs, Sum.inr z, h, rfl, hl, rfl⟩, q⟩
theorem x_newK (h : ∀ p, H p = none → Q (.ref p) (upd H p (.dK []))) : tDNewK σ H Q := h
end
end Ox
namespace Ox
open PySem PySem.Spec PyProof.Rows L2
theorem valV_at {kvs : List (Key × V)} (hn : (kvs.map (·.1)).Nodup) {i : Nat} {k : Key} {v : V} (h : kvs[i]? = some (k, v)) : valV kvs k = some v := by
  induction kvs generalizing i with
  | nil => cases h
  | cons p r ih =>
    have hn2 : (p.1 :: r.map (·.1)).Nodup := hn
    obtain ⟨h1, h2⟩ := List.nodup_cons.mp hn2
    unfold valV
    rw [List.find?_cons]
    cases i with
    | zero =>
      have e : p = (k, v) := Option.some.inj h
      subst e
      simp
    | succ i =>
      have h3 : r[i]? = some (k, v) := h
      have ne : ¬ p.1 = k := fun e => h1 (by rw [e]; exact List.mem_map.mpr ⟨(k, v), List.mem_of_getElem? h3, rfl⟩)
      rw [decide_eq_false ne]
      exact ih h2 h3
theorem valV_mem {kvs : List (Key × V)} {k : Key} {v : V} (h : valV kvs k = some v) : (k, v) ∈ kvs := by
  unfold valV at h
  cases e : kvs.find? (fun kv => decide (kv.1 = k)) with
  | none => rw [e] at h; cases h
  | some p =>
    rw [e] at h
    have h1 : p.2 = v := Option.some.inj h
    have h2 := List.find?_some e
    have h3 : p.1 = k := of_decide_eq_true h2
    rw [← h1, ← h3]
    exact List.mem_of_find?_eq_some e
/-- a dict with text keys -/
abbrev strK {α : Type} (f : α → V) (l : List (Str × α)) : List (Key × V) := l.map fun p => (Sum.inr p.1, f p.2)
theorem strK_at {α : Type} {f : α → V} {l : List (Str × α)} {i : Nat} {k : Key} {v : V} (h : (strK f l)[i]? = some (k, v)) : ∃ z x, k = Sum.inr z ∧ v = f x ∧ l[i]? = some (z, x) := by
  rw [List.getElem?_map] at h
  cases e : l[i]? with
  | none => rw [e] at h; cases h
  | some p =>
    rw [e] at h
    have e1 : ((Sum.inr p.1 : Key), f p.2) = (k, v) := Option.some.inj h
    injection e1 with e2 e3
    exact ⟨p.1, p.2, e2.symm, e3.symm, rfl⟩
theorem strK_nd {α : Type} {f : α → V} {l : List (Str × α)} (h : (l.map (·.1)).Nodup) : ((strK f l).map (·.1)).Nodup := by
  rw [List.map_map]
  have e : ((fun x : Key × V => x.1) ∘ fun p : Str × α => ((Sum.inr p.1 : Key), f p.2)) = (fun p : Str × α => (Sum.inr p.1 : Key)) := rfl
  rw [e]
  have e2 : l.map (fun p : Str × α => (Sum.inr p.1 : Key)) = (l.map (·.1)).map Sum.inr := by rw [List.map_map]; rfl
  rw [e2]
  exact List.pairwise_map.mpr (List.Pairwise.imp (fun {a b} hab e => hab (Sum.inr.inj e)) h)
theorem strK_val {α : Type} {f : α → V} {l : List (Str × α)} (h : (l.map (·.1)).Nodup) {i : Nat} {z : Str} {x : α} (e : l[i]? = some (z, x)) : valV (strK f l) (Sum.inr z : Key) = some (f x) :=
  valV_at (strK_nd h) (i := i) (by rw [List.getElem?_map, e]; rfl)
theorem strK_get {α : Type} {f : α → V} {l : List (Str × α)} {z : Str} {v : V} (h : valV (strK f l) (Sum.inr z : Key) = some v) : ∃ x, v = f x ∧ (z, x) ∈ l := by
  obtain ⟨p, hp, e⟩ := List.mem_map.mp (valV_mem h)
  injection e with e1 e2
  injection e1 with e3
  exact ⟨p.2, e2.symm, by rw [← e3]; exact hp⟩
theorem take_succ_get {α : Type} {l : List α} {i : Nat} {x : α} (h : l[i]? = some x) : l.take (i + 1) = l.take i ++ [x] := by
  rw [List.take_succ, h]
  rfl
end Ox
namespace Ox
open PySem PySem.Spec PyProof.Rows L2
/-- sorted(d), d a dict with text keys, of any length that fits the line -/
def rSortDA : List V → Hp → VK → Prop := fun xs H Q => ∃ (d : Addr) (kvs : List (Key × V)) (ks : List Str), xs = [.ref d] ∧ Rd H d (.dK kvs) ∧ kvs.map (·.1) = ks.map Sum.inr ∧ ks.length ≤ 10000 ∧
  ∀ ys p, ys.Perm ks → sortedS ys = true → H p = none → Q (.ref p) (upd H p (.lst (ys.map V.str)))
theorem call_sortedDA {X : Cx} (calm : X.calm = true) : CallR X (.builtin "sorted") rSortDA := by
  intro pn st σ H args us Q I ra hq
  obtain ⟨d, kvs, ks, rfl, rd, ek, len, fin⟩ := hq
  obtain ⟨ud, rfl, rud⟩ := vals1 ra
  cases rud
  obtain ⟨_, low, rows, rowsR, isd⟩ := dk_rd I.hok rd
  obtain ⟨epoch, atd⟩ := isd.dictAt
  have keyE : rows.map Prod.fst = ks.map Sum.inr := Eq.trans rowsR.keys.symm ek
  have lenE : rows.length = ks.length := by
    have t := congrArg List.length keyE
    simpa using t
  have line : ks.length ≤ sizeLine := by rw [sizeLine_eq]; omega
  refine Calls.call_function_entry kind_sorted plain_sorted entry_sorted (args_sorted1 _) ?_
  unfold Builtin.«sorted»
  refine wpAny_bind (m := checkCount "sorted" 1 1 _) (wpAny_pure (wpAny_bind (PySem.W.kdu_collect (A := X.A.in1) (PySem.W.kdl_dict (knd := mixKind X.prog X.w) (kvs := rows) (ep := epoch) low) (I.ok.hd calm) atd (by rw [lenE]; exact line) fun h1 t1 got keep isgot => ?_)))
  have gotL : got.toList.length = ks.length := (Array.length_toList ..).trans (isgot.1.trans lenE)
  have texts : StrsAre got.toList ks := strs_at gotL fun j v ev => by
    obtain ⟨key, _, er, ki⟩ := isgot.2 j v (by rw [← Array.getElem?_toList]; exact ev)
    have ekj : (ks.map Sum.inr)[j]? = some key := by rw [← keyE, List.getElem?_map, er]; rfl
    rw [List.getElem?_map] at ekj
    cases ez : ks[j]? with
    | none => rw [ez] at ekj; cases ekj
    | some z =>
      rw [ez] at ekj
      cases ekj
      obtain ⟨t, et⟩ := Value.isStrOf_shape (x := z) (v := v) ki
      exact ⟨z, t, rfl, et⟩
  have J : Inv X pn σ H { st with heap := h1, toks := t1 } := I.kept keep
  refine wpAny_bind (wpAny_newList ?_ (by rw [gotL]; rw [sizeLine_eq] at line; exact line))
  have isl : (h1.push (seqObj "list" got.toList.toArray 0)).get? h1.objs.size = some (seqObj "list" got.toList.toArray 0) := Heap.get?_push_size _ rfl
  change wpAny _ _ _ _ _ { st with heap := h1.push (seqObj "list" got.toList.toArray 0), toks := t1 }
  refine wpAny_bind (wpAny_holding (wpAny_call_entry slot_list_sort ⟨_, isl, rfl⟩ entry_list_sort (list_sort_treeKAny (s := { st with heap := h1.push (seqObj "list" got.toList.toArray 0), toks := t1 }) strKind_oneLt isl texts.keysOf
    (fun a b c eq => keyKind_strs (by rw [← eq]; exact texts)) (by rw [gotL]; exact line) fun st2 pm so => ⟨_, rfl, ?_⟩) (args_list_sort _)))
  obtain ⟨ys, y1, y2, y3⟩ := sorted_out_str texts pm so
  obtain ⟨ep2, at2⟩ := sortedHeap_at (vs := got.toList) (out := (arrOf st2).map (·.2)) isl
  have ylen : (ys.map V.str).length ≤ sizeLine := by rw [List.length_map, y2.length_eq]; exact line
  have laid := fun kept => J.laid (t' := t1) kept (Nat.le_refl h1.objs.size) (show ObjOk X.prog X.w _ _ _ (.lst (ys.map V.str)) from ⟨ylen, ((arrOf st2).map (·.2)).toList, ep2, vals_of_strs y1, by rw [Array.toArray_toList]; exact at2⟩)
  refine wpAny_pure ⟨_, rfl, .ref h1.objs.size, _, laid fun b u eb => ?_, rfl, fin ys _ y2 y3 (J.hok.fresh (Nat.le_refl _))⟩
  have small := Heap.lt_size eb
  rw [sortedHeap_old (Nat.ne_of_lt small) (by rw [size_push']; exact Nat.lt_succ_of_lt small)]
  exact Heap.get?_push_of_some _ eb
theorem lt_one (a b : Nat) : (([a] : List Nat) < [b]) ↔ a < b := by
  rw [List.cons_lt_cons_iff]
  simp
section
variable {H : Hp} {Q : VK} {d : Nat} {s : Str}
theorem x_leL (c : Nat) (e : s = ⟨#[c]⟩) (q : Q (.bl (decide (c ≤ d))) H) : rStr2 (fun i j => !decide (j.cps.toList < i.cps.toList)) (.str s) (.str ⟨#[d]⟩) H Q := by
  subst e
  refine ⟨_, _, rfl, rfl, ?_⟩
  have h : (!decide ((⟨#[d]⟩ : Str).cps.toList < (⟨#[c]⟩ : Str).cps.toList)) = decide (c ≤ d) := by
    show (!decide ([d] < [c])) = _
    rw [show decide (([d] : List Nat) < [c]) = decide (d < c) from decide_eq_decide.mpr (lt_one d c)]
    by_cases z : d < c
    · have : ¬ c ≤ d := by omega
      simp [z, this]
    · have : c ≤ d := by omega
      simp [z, this]
  dsimp only
  rw [h]
  exact q
theorem x_leR (c : Nat) (e : s = ⟨#[c]⟩) (q : Q (.bl (decide (d ≤ c))) H) : rStr2 (fun i j => !decide (j.cps.toList < i.cps.toList)) (.str ⟨#[d]⟩) (.str s) H Q := by
  subst e
  refine ⟨_, _, rfl, rfl, ?_⟩
  have h : (!decide ((⟨#[c]⟩ : Str).cps.toList < (⟨#[d]⟩ : Str).cps.toList)) = decide (d ≤ c) := by
    show (!decide ([c] < [d])) = _
    rw [show decide (([c] : List Nat) < [d]) = decide (c < d) from decide_eq_decide.mpr (lt_one c d)]
    by_cases z : c < d
    · have : ¬ d ≤ c := by omega
      simp [z, this]
    · have : d ≤ c := by omega
      simp [z, this]
  dsimp only
  rw [h]
  exact q
end
theorem chr_a : ("a" : Str) = ⟨#[97]⟩ := by decide +kernel
theorem chr_z : ("z" : Str) = ⟨#[122]⟩ := by decide +kernel
theorem chr_0 : ("0" : Str) = ⟨#[48]⟩ := by decide +kernel
theorem chr_9 : ("9" : Str) = ⟨#[57]⟩ := by decide +kernel
end Ox
namespace Ox
open PySem PySem.Spec PyProof.Rows L2
/-! ### dicts with text keys as association lists -/
theorem strK_look {α : Type} {f : α → V} (l : List (Str × α)) (z : Str) : valV (strK f l) (Sum.inr z : Key) = (l.lookup z).map f := by
  induction l with
  | nil => rfl
  | cons p r ih =>
    show valV ((Sum.inr p.1, f p.2) :: strK f r) (Sum.inr z : Key) = _
    unfold valV
    rw [List.find?_cons, List.lookup_cons]
    by_cases e : p.1 = z
    · subst e
      simp
    · have e1 : ¬ (Sum.inr p.1 : Key) = Sum.inr z := fun q => e (Sum.inr.inj q)
      have e2 : (z == p.1) = false := by simpa using fun q : z = p.1 => e q.symm
      rw [decide_eq_false e1, e2]
      exact ih
/-- a store -/
def putL {α : Type} (l : List (Str × α)) (z : Str) (x : α) : List (Str × α) := if z ∈ l.map (·.1) then l.map (fun p => if p.1 = z then (p.1, x) else p) else l ++ [(z, x)]
theorem putL_new {α : Type} {l : List (Str × α)} {z : Str} (x : α) (h : z ∉ l.map (·.1)) : putL l z x = l ++ [(z, x)] := by
  unfold putL
  rw [if_neg h]
theorem putL_keys {α : Type} {l : List (Str × α)} {z : Str} (x : α) (h : z ∈ l.map (·.1)) : (putL l z x).map (·.1) = l.map (·.1) := by
  unfold putL
  rw [if_pos h, List.map_map]
  refine List.map_congr_left fun p _ => ?_
  show (if p.1 = z then (p.1, x) else p).1 = p.1
  split <;> rfl
theorem putL_nd {α : Type} {l : List (Str × α)} {z : Str} (x : α) (h : (l.map (·.1)).Nodup) : ((putL l z x).map (·.1)).Nodup := by
  by_cases e : z ∈ l.map (·.1)
  · rw [putL_keys x e]
    exact h
  · rw [putL_new x e, List.map_append]
    exact List.nodup_append.mpr ⟨h, by simp, fun a ha b hb q => by
      rw [List.map_cons, List.map_nil, List.mem_singleton] at hb
      rw [q, hb] at ha
      exact e ha⟩
theorem putL_len {α : Type} (l : List (Str × α)) (z : Str) (x : α) : (putL l z x).length ≤ l.length + 1 := by
  unfold putL
  split <;> simp
theorem putL_mem {α : Type} {l : List (Str × α)} {z : Str} {x : α} {p : Str × α} (h : p ∈ putL l z x) : p = (z, x) ∨ (p ∈ l ∧ p.1 ≠ z) := by
  unfold putL at h
  by_cases e : z ∈ l.map (·.1)
  · rw [if_pos e] at h
    obtain ⟨q, hq, e2⟩ := List.mem_map.mp h
    by_cases eq : q.1 = z
    · rw [if_pos eq, eq] at e2
      exact .inl e2.symm
    · rw [if_neg eq] at e2
      rw [← e2]
      exact .inr ⟨hq, eq⟩
  · rw [if_neg e] at h
    rcases List.mem_append.mp h with h | h
    · exact .inr ⟨h, fun q => e (by rw [← q]; exact List.mem_map.mpr ⟨p, h, rfl⟩)⟩
    · exact .inl (List.mem_singleton.mp h)
theorem strK_put {α : Type} {f : α → V} (l : List (Str × α)) (z : Str) (x : α) : putK (strK f l) (Sum.inr z : Key) (f x) = strK f (putL l z x) := by
  have ha : ((strK f l).any fun kv => decide (kv.1 = (Sum.inr z : Key))) = decide (z ∈ l.map (·.1)) := by
    induction l with
    | nil => rfl
    | cons p r ih =>
      show ((decide ((Sum.inr p.1 : Key) = Sum.inr z)) || ((strK f r).any fun kv => decide (kv.1 = (Sum.inr z : Key)))) = decide (z ∈ p.1 :: r.map (·.1))
      rw [ih]
      by_cases e : p.1 = z
      · simp [e]
      · have e2 : ¬ z = p.1 := fun q => e q.symm
        simp [e, e2]
  unfold putK putL
  rw [ha]
  by_cases e : z ∈ l.map (·.1)
  · rw [if_pos (decide_eq_true e), if_pos e]
    show (List.map _ (List.map _ l)) = List.map _ (List.map _ l)
    rw [List.map_map, List.map_map]
    refine List.map_congr_left fun p _ => ?_
    show (if (Sum.inr p.1 : Key) = Sum.inr z then ((Sum.inr p.1 : Key), f x) else (Sum.inr p.1, f p.2)) = ((Sum.inr (if p.1 = z then (p.1, x) else p).1 : Key), f (if p.1 = z then (p.1, x) else p).2)
    by_cases h : p.1 = z
    · rw [if_pos h, if_pos (by rw [h])]
    · rw [if_neg h, if_neg (fun q => h (Sum.inr.inj q))]
  · rw [if_neg (by simp only [decide_eq_true_eq]; exact e), if_neg e]
    exact (List.map_append (l₁ := l) (l₂ := [(z, x)]) (f := fun p : Str × α => ((Sum.inr p.1 : Key), f p.2))).symm
theorem lookup_mem {α : Type} {l : List (Str × α)} {z : Str} {x : α} (h : l.lookup z = some x) : (z, x) ∈ l := by
  induction l with
  | nil => cases h
  | cons p r ih =>
    rw [List.lookup_cons] at h
    by_cases e : z = p.1
    · subst e
      rw [beq_self_eq_true] at h
      cases h
      exact List.mem_cons_self
    · have e2 : (z == p.1) = false := by simpa using e
      rw [e2] at h
      exact List.mem_cons_of_mem _ (ih h)
theorem lookup_of {α : Type} {l : List (Str × α)} (hn : (l.map (·.1)).Nodup) {z : Str} {x : α} (h : (z, x) ∈ l) : l.lookup z = some x := by
  induction l with
  | nil => cases h
  | cons p r ih =>
    obtain ⟨h1, h2⟩ := List.nodup_cons.mp (show (p.1 :: r.map (·.1)).Nodup from hn)
    rw [List.lookup_cons]
    rcases List.mem_cons.mp h with e | h
    · rw [← e]
      simp
    · have ne : ¬ z = p.1 := fun q => h1 (by rw [← q]; exact List.mem_map.mpr ⟨(z, x), h, rfl⟩)
      have e2 : (z == p.1) = false := by simpa using ne
      rw [e2]
      exact ih h2 h
theorem lookup_isSome {α : Type} {l : List (Str × α)} {z : Str} (h : z ∈ l.map (·.1)) : ∃ x, l.lookup z = some x := by
  induction l with
  | nil => cases h
  | cons p r ih =>
    rw [List.lookup_cons]
    by_cases e : z = p.1
    · subst e
      exact ⟨p.2, by simp⟩
    · have e2 : (z == p.1) = false := by simpa using e
      rw [e2]
      exact ih ((List.mem_cons.mp h).resolve_left e)
theorem lookup_none {α : Type} {l : List (Str × α)} {z : Str} (h : z ∉ l.map (·.1)) : l.lookup z = none := by
  cases e : l.lookup z with
  | none => rfl
  | some x => exact absurd (List.mem_map.mpr ⟨_, lookup_mem e, rfl⟩) h
theorem lookup_perm {α : Type} {l l' : List (Str × α)} (hp : l'.Perm l) (hn : (l.map (·.1)).Nodup) (z : Str) : l'.lookup z = l.lookup z := by
  have hn' : (l'.map (·.1)).Nodup := (List.Perm.nodup_iff (hp.map _)).mpr hn
  cases e : l.lookup z with
  | some x => exact lookup_of hn' (hp.mem_iff.mpr (lookup_mem e))
  | none =>
    cases e2 : l'.lookup z with
    | none => rfl
    | some x =>
      have := lookup_of hn (hp.mem_iff.mp (lookup_mem e2))
      rw [e] at this
      cases this
/-- the same table, its keys in another order -/
theorem table_perm {α : Type} {l : List (Str × α)} {ys : List Str} (hn : (l.map (·.1)).Nodup) (hp : ys.Perm (l.map (·.1))) (d : α) : (ys.map fun z => (z, (l.lookup z).getD d)).Perm l := by
  have h1 := hp.map fun z => (z, (l.lookup z).getD d)
  have h2 : (l.map (·.1)).map (fun z => (z, (l.lookup z).getD d)) = l := by
    rw [List.map_map]
    conv => rhs; rw [← List.map_id l]
    refine List.map_congr_left fun p hp => ?_
    show (p.1, (l.lookup p.1).getD d) = p
    rw [lookup_of hn (z := p.1) (x := p.2) hp]
    rfl
  rw [h2] at h1
  exact h1
section
variable {σ : L2.St} {H : Hp} {n : L2.St → Hp → Prop} {r : VK} {b c : L2.St → Hp → Prop} {ta tv : TE} {K : PySem.W.Frag}
def rSfA (K : PySem.W.Frag) (f : Str) (x y : V) (H : Hp) (N : Hp → Prop) : Prop := ∃ a C dx fs, x = .ref a ∧ H a = some (.ins C dx fs) ∧ Cls K C ∧ NoAttr K C f ∧ fs.length < 1000 ∧ N (upd H a (.ins C dx (putF f y fs)))
theorem x_sfld {f : Str} (h : tv σ H fun y H1 => ta σ H1 fun x H2 => rSfA K f x y H2 fun H3 => n σ H3) : sFld K ta tv f ⟨n, r, b, c⟩ σ H := h
theorem x_sf {a C dx : Addr} {fs : List (Str × V)} {f : Str} {y : V} {N : Hp → Prop} (hc : Cls K C) (hn : NoAttr K C f) (h : H a = some (.ins C dx fs)) (hl : fs.length < 1000) (q : N (upd H a (.ins C dx (putF f y fs)))) : rSfA K f (.ref a) y H N :=
  ⟨a, C, dx, fs, rfl, h, hc, hn, hl, q⟩
end
end Ox
namespace Ox
open PySem PySem.Spec PyProof.Rows L2
/-! ### rules with the written part told by a letter (for a comprehension's block) -/
section
variable {X : Cx} {K : PySem.W.Frag}
theorem ix_listK (e : X.K = K := by rfl) : IxR X (rIxL K) := e ▸ ix_list
theorem ix_tupK (e : X.K = K := by rfl) : IxR X (rIxT K) := e ▸ ix_tup
theorem call_lenAK (e : X.K = K := by rfl) : CallR X (.builtin "len") (rLenA K) := e ▸ call_lenA
theorem op_in_seqK (e : X.K = K := by rfl) : OpR X (compareOp .In) (rIn K false) := e ▸ op_in_seq
theorem op_notIn_seqK (e : X.K = K := by rfl) : OpR X (compareOp .NotIn) (rIn K true) := e ▸ op_notIn_seq
theorem call_isiK (e : X.K = K := by rfl) : CallR X (.builtin "isinstance") (rIsi K) := e ▸ call_isi
theorem call_listAK (e : X.K = K := by rfl) : CallR X (.type "list") (rListA K) := e ▸ call_listA
theorem call_tupleAK (e : X.K = K := by rfl) : CallR X (.type "tuple") (rTupleA K) := e ▸ call_tupleA
theorem sl_listK (e : X.K = K := by rfl) : SlR X (rSlL K) := e ▸ sl_list
theorem pe_fldK {o : Expr} {f : Str} {pos : Pos} {ta : TE} (he : PE X o ta) (hb : attributeBase o f X.env (eval o X.env) = eval o X.env) (e : X.K = K := by rfl) : PE X (.Attribute o f pos) (tFld K ta f) := e ▸ pe_fld he hb
end
end Ox
namespace Ox
open PySem PySem.Spec PyProof.Rows L2
theorem pg_tupK {X : Cx} {K : PySem.W.Frag} {es : List Expr} {k : Nat} {pos : Pos} {t : TGs} {n : Nat} (hc : X.calm = true) (h : PGs X es t) (hn : (assignEach es X.env).length = n := by rfl) (hst : (assignEach es X.env).findIdx? (·.1) = none := by rfl)
    (e : X.K = K := by rfl) : PG X (.Tuple es k pos) (gTup K n t) := e ▸ pg_tup hc h hn hst
end Ox
namespace Ox
open PySem PySem.Spec PyProof.Rows L2
theorem putL_old {α : Type} {l : List (Str × α)} {z : Str} (x : α) (h : z ∈ l.map (·.1)) : putL l z x = l.map fun p => if p.1 = z then (p.1, x) else p := by
  unfold putL
  rw [if_pos h]
theorem putL_putL {α : Type} (l : List (Str × α)) (z : Str) (a b : α) : putL (putL l z a) z b = putL l z b := by
  by_cases e : z ∈ l.map (·.1)
  · have e2 : z ∈ (putL l z a).map (·.1) := by rw [putL_keys a e]; exact e
    rw [putL_old b e2, putL_old b e, putL_old a e, List.map_map]
    refine List.map_congr_left fun p _ => ?_
    show (if (if p.1 = z then (p.1, a) else p).1 = z then ((if p.1 = z then (p.1, a) else p).1, b) else (if p.1 = z then (p.1, a) else p)) = _
    by_cases h : p.1 = z
    · simp [h]
    · simp [h]
  · have e2 : z ∈ (putL l z a).map (·.1) := by rw [putL_new a e]; simp
    rw [putL_old b e2, putL_new a e, putL_new b e, List.map_append]
    have h4 : (l.map fun p => if p.1 = z then (p.1, b) else p) = l := by
      conv => rhs; rw [← List.map_id l]
      refine List.map_congr_left fun p hp => ?_
      have : ¬ p.1 = z := fun q => e (by rw [← q]; exact List.mem_map.mpr ⟨p, hp, rfl⟩)
      rw [if_neg this]
      rfl
    rw [h4]
    simp
end Ox

/-! Own layer, second part: list(d.values()), kinds of values, own classes. -/
namespace Ox
open PySem PySem.Spec PyProof.Rows L2
/-! ### list(d.values()), list(d) -/
def rListVA (x : V) (H : Hp) (Q : VK) : Prop := ∃ (d : Addr) (kvs : List (Key × V)), x = .ref d ∧ Rd H d (.dK kvs) ∧ ∀ p, H p = none → Q (.ref p) (upd H p (.lst (kvs.map Prod.snd)))
def tListVA (te : TE) : TE := fun σ H Q => te σ H fun x H1 => rListVA x H1 Q
section
variable {X : Cx} {e : Expr} {te : TE} {p apos cpos pos : Pos}
theorem pe_listV (hc : X.calm = true) (he : PE X e te) (hg : Gl X "list") (hm : X.mg "list" = none) (hv : bootBuiltins "list" = some (.type "list") := by decide +kernel)
    (hbase : attributeBase e "values" X.env (eval e X.env) = eval e X.env := by rfl)
    (hline : (apos.endLine == cpos.line) = true := by rfl)
    (hs : starEach [.Call (.Attribute e "values" apos) [] [] cpos] X.env = (false, eval (.Call (.Attribute e "values" apos) [] [] cpos) X.env) :: starEach [] X.env := by rfl) :
    PE X (.Call (.Name "list" p) [.Call (.Attribute e "values" apos) [] [] cpos] [] pos) (tListVA te) := ⟨fun pins s σ H Q I hq => by
  refine wpAny_Call_Name_kw (ld_blt I hg hm hv (PyProof.Rows.callWith_type1 ?_ hs rfl))
  rw [hs]
  show wpAny _ _ (spliced ((false, eval (.Call (.Attribute e "values" apos) [] [] cpos) X.env) :: backTo pos (starEach [] X.env))) _ _ _
  refine Calls.spliced_cons (wpAny_Call_method (T := "dict") (id := "dict.values") hbase rfl hline F.plainAttrs_dict F.slot_dict_values F.type_dict_values ?_)
  refine thn (he.run pins s σ H _ I hq) fun u s1 ⟨x, H1, I1, rx, d, kvs, ex, hd, q⟩ => ?_
  subst ex
  obtain rfl : u = Value.ref d := rx
  obtain ⟨hz, hs0, ws, kv, hdo⟩ := (show ObjOk X.prog X.w H1 s1.heap d (.dK kvs) from hd.ok I1.hok)
  obtain ⟨ep, hat⟩ := hdo.dictAt
  have lk : kvs.length = ws.length := Paired.length kv
  have I2 : Inv X pins σ H1 { s1 with heap := s1.heap.push { cls := .type "dict_values", data := .fields #[.ref d] } } := I1.kept fun b ob q => Heap.get?_push_of_some _ q
  refine ⟨hdo.typeIs, hdo.mapOf.noDict, ?_⟩
  show wpAny _ _ (callWith cpos (.builtin "dict.values") [.ref d] [] []) _ X.xe s1
  refine method_meetsIn F.slot_dict_values F.entry_dict_values rfl (PySem.evalArgs_none ⟨rfl, hdo.typeIs, F.args_dict_values_1 _, _, meets_dict_values (mixKind X.prog X.w) d hs0, ⟨ws, hdo⟩, Calls.spliced_nil ?_⟩)
  refine PySem.W.kdl_call (PySem.W.kdl_values (knd := mixKind X.prog X.w) (kvs := ws) (ep := ep)) (I1.ok.hd hc) ⟨⟨_, Heap.get?_push_size _ rfl, rfl, rfl⟩, hat.push _⟩ (by omega) fun h' tk acc c hk hS hacc => ?_
  refine ⟨.ref _, upd H1 _ (.lst (kvs.map Prod.snd)), I2.laid hk (Nat.le_refl _) (show ObjOk X.prog X.w _ _ _ (.lst (kvs.map Prod.snd)) from ⟨by rw [List.length_map]; exact hz, acc.toList, c, ?_, by rw [Array.toArray_toList]; exact hS⟩), rfl, q _ (I2.hok.fresh (Nat.le_refl _))⟩
  have el : acc.toList.length = acc.size := by simp
  refine vals_of_at (by rw [List.length_map, el, hacc.1, lk]) fun j x w h1 h2 => ?_
  obtain ⟨k, hky⟩ := hacc.2 j w (by rw [← Array.getElem?_toList]; exact h2)
  rw [List.getElem?_map] at h1
  cases e2 : kvs[j]? with
  | none => rw [e2] at h1; cases h1
  | some kvj =>
    rw [e2] at h1
    have h3 : kvj.2 = x := Option.some.inj h1
    obtain ⟨y, hy, _, ry⟩ := LiI.paired_get kv e2
    rw [hky] at hy
    cases hy
    rw [← h3]
    exact ry⟩
end
theorem x_listV {σ : L2.St} {H : Hp} {Q : VK} {te : TE} (h : te σ H fun x H1 => rListVA x H1 Q) : tListVA te σ H Q := h
theorem x_listv {H : Hp} {Q : VK} {d : Addr} {kvs : List (Key × V)} (h : Rd H d (.dK kvs)) (q : ∀ p, H p = none → Q (.ref p) (upd H p (.lst (kvs.map Prod.snd)))) : rListVA (.ref d) H Q := ⟨d, kvs, rfl, h, q⟩
theorem x_listD {H : Hp} {Q : VK} {d : Addr} {kvs : List (Key × V)} (h : H d = some (.dK kvs)) (q : ∀ p, H p = none → Q (.ref p) (upd H p (.lst (kvs.map fun kv => kV kv.1)))) : rListD [.ref d] H Q := ⟨d, kvs, rfl, h, q⟩
/-! ### kinds of values -/
inductive Kn where
  | non | bl | int | str | lst | tup | dict
  deriving DecidableEq
def Kn.ty : Kn → String
  | .non => "NoneType" | .bl => "bool" | .int => "int" | .str => "str" | .lst => "list" | .tup => "tuple" | .dict => "dict"
/-- x is of the kind -/
inductive Kd (K : PySem.W.Frag) (H : Hp) : V → Kn → Prop where
  | non : Kd K H .non .non
  | bl (b : Bool) : Kd K H (.bl b) .bl
  | int (i : Int) : Kd K H (.int i) .int
  | str (z : Str) : Kd K H (.str z) .str
  | lst {a : Addr} {xs : List V} (h : SqL K H a xs) : Kd K H (.ref a) .lst
  | tup {a : Addr} {xs : List V} (h : SqT K H a xs) : Kd K H (.ref a) .tup
  | dict {a : Addr} {kvs : List (Key × V)} (h : Rd H a (.dK kvs)) : Kd K H (.ref a) .dict
theorem Kd.tyx {K : PySem.W.Frag} {H : Hp} {x : V} {k : Kn} (h : Kd K H x k) : TyX K H x (.type k.ty) := by
  cases h with
  | non => exact .base .non
  | bl b => exact .base (.bl b)
  | int i => exact .base (.int i)
  | str z => exact .base (.str z)
  | lst h =>
    rcases h with (h | ⟨o, h⟩) | ⟨o, its, n, h1, h2, _⟩
    · exact .base (.lst h)
    · exact .base (.frz h)
    · exact .kList h1 h2
  | tup h =>
    rcases h with (h | ⟨o, h⟩) | ⟨o, its, n, h1, h2, _⟩
    · exact .base (.tup h)
    · exact .fTuple h
    · exact .kTuple h1 h2
  | dict h =>
    rcases h with h | ⟨o, h⟩
    · exact .base (.dK h)
    · exact .fDict h
def isB : Kn → Kn → Bool
  | .non, .non => true | .bl, .bl => true | .bl, .int => true | .int, .int => true | .str, .str => true | .lst, .lst => true | .tup, .tup => true | .dict, .dict => true
  | _, _ => false
theorem kitB_is : ∀ k T : Kn, T ≠ .non → kitB k.ty T.ty = some (isB k T) := by
  intro k T hT
  cases T with
  | non => exact absurd rfl hT
  | _ => cases k <;> decide +kernel
section
variable {K : PySem.W.Frag} {H : Hp} {Q : VK} {x : V} {k : Kn}
theorem x_isi (T : Kn) (h : Kd K H x k) (q : Q (.bl (isB k T)) H) (hT : T ≠ .non := by decide) : rIsi K [x, .ty T.ty] H Q := ⟨x, _, _, _, _, rfl, .ty _, h.tyx, kit_ty (kitB_is k T hT), q⟩
theorem x_isiInt (h : Kd K H x k) (q : Q (.bl (isB k .int)) H) : rIsi K [x, .ty "int"] H Q := x_isi .int h q
theorem x_isiBool (h : Kd K H x k) (q : Q (.bl (isB k .bl)) H) : rIsi K [x, .ty "bool"] H Q := x_isi .bl h q
theorem x_isiStr (h : Kd K H x k) (q : Q (.bl (isB k .str)) H) : rIsi K [x, .ty "str"] H Q := x_isi .str h q
theorem x_isiList (h : Kd K H x k) (q : Q (.bl (isB k .lst)) H) : rIsi K [x, .ty "list"] H Q := x_isi .lst h q
theorem x_isiTup (h : Kd K H x k) (q : Q (.bl (isB k .tup)) H) : rIsi K [x, .ty "tuple"] H Q := x_isi .tup h q
theorem x_isiDict (h : Kd K H x k) (q : Q (.bl (isB k .dict)) H) : rIsi K [x, .ty "dict"] H Q := x_isi .dict h q
end
/-! ### own classes: isinstance -/
/-- the class at C: what isinstance asks of it -/
structure Isc (K : PySem.W.Frag) (C : Addr) : Prop where
  cl : Cls K C
  ha : PySem.W.findIn K (.ref C) "__class__" = some (some (.builtin "object.__class__"))
  hn : PySem.W.specialIn K (.builtin "object.__class__") "__get__" = some (some (.builtin "getset_descriptor.__get__"))
  ht : PySem.W.takesIn K (.builtin "object.__class__") = some true
  hm : PySem.W.mroIn K C (.type "object") = some true
theorem x_isiOwn {K : PySem.W.Frag} {H : Hp} {Q : VK} {a C D dx : Addr} {fs : List (Str × V)} {b : Bool} (i : Isc K C) (h : H a = some (.ins C dx fs)) (hk : PySem.W.kitOne K (.ref C) (.ref D) = some b) (q : Q (.bl b) H) : rIsi K [.ref a, .ref D] H Q :=
  ⟨_, _, _, _, _, rfl, .own D, .base (.ins h i.cl i.ha i.hn i.ht i.hm), hk, q⟩
theorem iscB_ok {C : Str} {K : PySem.W.Frag} (h : iscB C K = true) : Isc K (He.ga K C) := by
  obtain ⟨h1, h⟩ := Bool.and_eq_true_iff.mp h
  obtain ⟨h2, h⟩ := Bool.and_eq_true_iff.mp h
  obtain ⟨h3, h⟩ := Bool.and_eq_true_iff.mp h
  obtain ⟨h4, h5⟩ := Bool.and_eq_true_iff.mp h
  exact ⟨He.cls_ok h1, He.eqO_ok h2, He.eqO_ok h3, of_decide_eq_true h4, of_decide_eq_true h5⟩
theorem kitF_ok {C D : Str} {b : Bool} {K : PySem.W.Frag} (h : kitF C D b K = true) : PySem.W.kitOne K (.ref (He.ga K C)) (.ref (He.ga K D)) = some b := of_decide_eq_true h
end Ox
namespace Ox
open PySem PySem.Spec PyProof.Rows L2
/-! ### == by an own __eq__, any answer -/
def rEqOwn (C : Addr) (sp : Sp) : R2 := fun x y H Q => ∃ a b dx dy fs gs, x = .ref a ∧ y = .ref b ∧ H a = some (.ins C dx fs) ∧ H b = some (.ins C dy gs) ∧ sp [.ref a, .ref b] H (fun v H' => ∃ k, v = .bl k ∧ Q (.bl k) H') E0
theorem op_eqOwn {X : Cx} {C : Addr} {k : Nat} {sp : Sp} {ps : List Str} (M : Met X.prog X.w X.K X.mg X.base C k "__eq__" ps sp) (hr : Room k X.A) : OpR X (compareOp .Eq) (rEqOwn C sp) := by
  obtain ⟨f, fd, mt, F, hb⟩ := M.ex
  intro pins s σ H x y u v Q I rx ry h
  obtain ⟨a, b, dx, dy, fs, gs, rfl, rfl, ha, hb2, hsp⟩ := h
  cases rx
  cases ry
  obtain ⟨mA, J, _⟩ := ins_get I.hok ha
  obtain ⟨mB, J2, _⟩ := ins_get I.hok hb2
  obtain ⟨od, J, _⟩ := J.look
  obtain ⟨od2, J2, _⟩ := J2.look
  obtain ⟨m, hF⟩ := I.fr
  show wpAny (model X.prog X.w) X.A (richCompare .Eq (.ref a) (.ref b)) (EP X pins σ Q) X.xe s
  refine PySem.W.cmp_K (op := .Eq) (tb := .ref C) hr.units0 hF I.ok.mod.kin J J2.type (by simp [PySem.W.notFirst]) mt.at_ mt.fn ?_
  have hl := F.len _ _ _ _ hsp
  have r2 : Vals [V.ref a, V.ref b] [Value.ref a, Value.ref b] := .cons rfl (.cons rfl .nil)
  refine wpAny_call (codeAny_mono (F.run X.A X.stack s H ⟨[.ref a, .ref b], []⟩ [.ref a, .ref b] [.ref a, .ref b] _ E0 hr I.env0 (by
    have := hb s [.ref a, .ref b] I.kIn (by simpa using hl)
    simpa using this) r2 hsp) fun r s' hq => ?_)
  cases r with
  | error e => exact hq.elim
  | ok fl =>
    cases fl with
    | ret w =>
      obtain ⟨z, H', I', rz, kk, ez, q⟩ := I.after hq
      subst ez
      cases rz
      exact ⟨.bl kk, H', I', rfl, q⟩
    | next => exact False.elim hq
    | brk => exact False.elim hq
    | cont => exact False.elim hq
theorem x_eqOwn {C : Addr} {sp : Sp} {H : Hp} {Q : VK} {a b dx dy : Addr} {fs gs : List (Str × V)} (ha : H a = some (.ins C dx fs)) (hb : H b = some (.ins C dy gs)) (h : sp [.ref a, .ref b] H (fun v H' => ∃ k, v = .bl k ∧ Q (.bl k) H') E0) : rEqOwn C sp (.ref a) (.ref b) H Q :=
  ⟨a, b, dx, dy, fs, gs, rfl, rfl, ha, hb, h⟩
end Ox
namespace Ox
open PySem PySem.Spec PyProof.Rows L2
theorem Kd.same {K : PySem.W.Frag} {H H' : Hp} {x : V} {k : Kn} (s : L2.Same H H') (h : Kd K H x k) : Kd K H' x k := by
  cases h with
  | non => exact .non
  | bl b => exact .bl b
  | int i => exact .int i
  | str z => exact .str z
  | lst h => exact .lst (s.seq h)
  | tup h => exact .tup (same_t s h)
  | dict h => exact .dict (same_rd s h)
/-- .. where one dict is held -/
theorem Kd.held {K : PySem.W.Frag} {H : Hp} {x : V} {k : Kn} {d : Addr} {o : Obj} {kvs : List (Key × V)} (hd : H d = some (.dK kvs)) (h : Kd K H x k) : Kd K (upd H d (.frz o (.dK kvs))) x k := by
  have rd : ∀ {a u}, Rd H a u → Rd (upd H d (.frz o (.dK kvs))) a u := fun {a u} h => by
    by_cases e : a = d
    · subst e
      rcases h with h | ⟨o', h⟩
      · rw [hd] at h
        cases h
        exact .inr ⟨o, upd_same⟩
      · rw [hd] at h
        cases h
    · rcases h with h | ⟨o', h⟩
      · exact .inl (by rw [upd_ne e]; exact h)
      · exact .inr ⟨o', by rw [upd_ne e]; exact h⟩
  cases h with
  | non => exact .non
  | bl b => exact .bl b
  | int i => exact .int i
  | str z => exact .str z
  | lst h => exact .lst (h.elim (fun h => .inl (rd h)) .inr)
  | tup h => exact .tup (h.elim (fun h => .inl (rd h)) .inr)
  | dict h => exact .dict (rd h)
end Ox
namespace Ox
open PySem PySem.Spec PyProof.Rows L2
section
variable {σ : L2.St} {H : Hp} {Q : VK} {ta : TE} {K : PySem.W.Frag} {C : Addr} {sp : Sp}
def rRevA (K : PySem.W.Frag) (x : V) (H : Hp) (Q : VK) : Prop := ∃ a xs, x = .ref a ∧ SqL K H a xs ∧ ∀ p, H p = none → Q (.ref p) (upd H p (.lst xs.reverse))
theorem x_revL (h : ta σ H fun x H1 => rRevA K x H1 Q) : tRevL K ta σ H Q := h
theorem x_rev {a : Addr} {xs : List V} (h : SqL K H a xs) (q : ∀ p, H p = none → Q (.ref p) (upd H p (.lst xs.reverse))) : rRevA K (.ref a) H Q := ⟨a, xs, rfl, h, q⟩
def rPropA (C : Addr) (sp : Sp) (x : V) (H : Hp) (Q : VK) : Prop := ∃ a dx fs, x = .ref a ∧ H a = some (.ins C dx fs) ∧ sp [.ref a] H Q E0
theorem x_prop (h : ta σ H fun x H1 => rPropA C sp x H1 Q) : tProp C sp [] E0 ta σ H Q := h
theorem x_prp {a dx : Addr} {fs : List (Str × V)} (h : H a = some (.ins C dx fs)) (q : sp [.ref a] H Q E0) : rPropA C sp (.ref a) H Q := ⟨a, dx, fs, rfl, h, q⟩
theorem x_putL {α : Type} {f : α → V} {l : List (Str × α)} {z : Str} {x : α} {v : V} {p : Addr} {N : Hp → Prop} (h : H p = some (.dK (strK f l))) (hl : l.length < 10000) (hv : v = f x) (q : N (upd H p (.dK (strK f (putL l z x))))) : rDputA (.ref p) (.str z) v H N := by
  subst hv
  refine x_putS h (sz_lt (by rw [List.length_map]; exact hl)) ?_
  rw [strK_put]
  exact q
theorem x_getL {α : Type} {f : α → V} {l : List (Str × α)} {z : Str} {x : α} {p : Addr} (h : Rd H p (.dK (strK f l))) (e : l.lookup z = some x) (q : Q (f x) H) : rGetA (.ref p) (.str z) H Q :=
  x_getS h (by rw [strK_look, e]; rfl) q
theorem x_inD {α : Type} {f : α → V} {l : List (Str × α)} {z : Str} {p : Addr} (h : Rd H p (.dK (strK f l))) (q : Q (.bl (l.lookup z).isSome) H) : rDinA (.str z) (.ref p) H Q := by
  refine x_dinS h ?_
  rw [strK_look, Option.isSome_map]
  exact q
theorem x_ninD {α : Type} {f : α → V} {l : List (Str × α)} {z : Str} {p : Addr} (h : Rd H p (.dK (strK f l))) (q : Q (.bl (!(l.lookup z).isSome)) H) : rDninA (.str z) (.ref p) H Q := by
  refine x_dninS h ?_
  rw [strK_look, Option.isSome_map]
  exact q
end
end Ox
namespace Ox
open PySem PySem.Spec PyProof.Rows L2
/-- a dict was held, then set free -/
theorem same_back {H H' : Hp} {d : Addr} {o : Obj} {u : HO} (hd : H d = some u) (s : L2.Same (upd H d (.frz o u)) H') : L2.Same H (upd H' d u) := fun b x e => by
  by_cases hb : b = d
  · subst hb
    rw [hd] at e
    rw [upd_same, e]
  · rw [upd_ne hb]
    exact s b x (by rw [upd_ne hb]; exact e)
theorem rd_held {H : Hp} {d n : Addr} {o : Obj} {u x : HO} (hn : n ≠ d) (h : Rd H n x) : Rd (upd H d (.frz o u)) n x := by
  rcases h with h | ⟨o', h⟩
  · exact .inl (by rw [upd_ne hn]; exact h)
  · exact .inr ⟨o', by rw [upd_ne hn]; exact h⟩
theorem upd_id {H : Hp} {d : Addr} {u : HO} (h : H d = some u) : upd H d u = H := by
  funext b
  by_cases hb : b = d
  · subst hb; rw [upd_same, h]
  · rw [upd_ne hb]
/-! ### while x: -/
section
variable {tb : TS} {σ : L2.St} {H : Hp} {n : L2.St → Hp → Prop} {r : VK} {b k : L2.St → Hp → Prop} {i : Nat}
/-- W m: what holds ahead of the test, m goes down -/
theorem lpWv (W : Nat → L2.St → Hp → Prop) {m : Nat} (h0 : W m σ H) (hs : ∀ m σ H, W m σ H → ∃ z, σ[i]? = some (some (.bl z)) ∧
    if z = true then tb ⟨fun σ' H' => ∃ m', m' < m ∧ W m' σ' H', r, n, fun σ' H' => ∃ m', m' < m ∧ W m' σ' H'⟩ σ H else n σ H) : tWhile (tTest (tVar i)) tb ⟨n, r, b, k⟩ σ H := by
  refine ⟨W, ⟨m, h0⟩, fun m σ H h => ?_⟩
  obtain ⟨z, hz, q⟩ := hs m σ H h
  refine ⟨.bl z, hz, z, rfl, ?_⟩
  cases z with
  | true => exact ⟨fun σ' H' => ∃ m', m' < m ∧ W m' σ' H', fun _ _ h => h, q⟩
  | false => exact q
end
end Ox

/-! Own layer, third part: name = {k: v for ..}. -/
namespace Ox
open PySem PySem.Spec PyProof.Rows L2
section
variable {X : Cx}
theorem sw_trueD {kx vx : Expr} {gs : List Comprehension} {scope : Scope} {pos py : Pos} {y : Str} {l : Nat} {env : Env} (hk : env.scope.kind = .function) (hy : env.scope.names.lookup y = some .local) (hl : (py.line == pos.line) = true)
    (ha : (scope.names.any fun (n, k) => n == y && (k == .local || k == .cell)) = false) : swapsWith (.DictComp kx vx gs scope pos) (some (.Name y py)) l env = pure true := by
  have k1 : env.kindOf y = some .local := hy
  have k2 : env.blockKind = .function := by unfold Env.blockKind; rw [hk]; rfl
  unfold swapsWith; simp only [k2, k1, ha, Expr.pos, hl]; rfl
theorem ps_setDc {i : Nat} {y : Str} {py : Pos} {kx vx tg iter : Expr} {ifs : List Expr} {scope : Scope} {own : List (Str × Nat)} {pos spos : Pos} {wi : TI} {g : TG} {tt : TT} {tk tv : TE} (hc : X.calm = true) (hN : X.N.Nodup) (hy : X.N[i]? = some y) (hyl : X.env.scope.names.lookup y = some .local)
    (hsw : swapsWith (.DictComp kx vx [⟨tg, iter, ifs, 0⟩] scope pos) (some (.Name y py)) spos.line X.env = pure true) (hi : PI X tg iter wi) (ok : BlkOk X.N X.env.scope scope own)
    (hg : ∀ (s : Shared) (H : Hp) (C : Addr) (cl : List (Str × Addr)) (fp : List Addr), PG (X.blk s H scope (compEnvC scope cl C X.env) fp) tg g) (htt : ∀ (s : Shared) (H : Hp) (C : Addr) (cl : List (Str × Addr)) (fp : List Addr), PTs (X.blk s H scope (compEnvC scope cl C X.env) fp) ifs tt)
    (hkx : ∀ (s : Shared) (H : Hp) (C : Addr) (cl : List (Str × Addr)) (fp : List Addr), PE (X.blk s H scope (compEnvC scope cl C X.env) fp) kx tk) (hvx : ∀ (s : Shared) (H : Hp) (C : Addr) (cl : List (Str × Addr)) (fp : List Addr), PE (X.blk s H scope (compEnvC scope cl C X.env) fp) vx tv)
    (hs : ∀ x, foldedSetIterable iter X.env x = pure x := by intro _; rfl) :
    PS X (.Assign [.Name y py] (.DictComp kx vx [⟨tg, iter, ifs, 0⟩] scope pos) spos) (tAsg (tDc wi g tt tk tv (own.map (·.2))) (gName i)) := by
  constructor; intro pins s σ H D I h; rw [exec_Assign_Name_used _ _ _ _ hsw]; refine wpAny_bind (wpAny_standAt (wpAny_bind ?_))
  show wpAny _ X.A (do let _ ← comprehension (.DictComp kx vx [⟨tg, iter, ifs, 0⟩] scope pos) scope X.env (firstIterPos [⟨tg, iter, ifs, 0⟩] pos) newDict false (eval iter X.env) (some (assign (.Name y py) X.env))) _ _ s
  have h2 : tDc wi g tt tk tv (own.map (·.2)) σ H (fun x H1 => gName i x σ H1 D.nx) := h
  refine wpAny_bind (thn (dc_core (Qf := fun _ s' => SP X pins D .next s') hc hN I hi ok hg htt hkx hvx hs h2 fun L C s' m H' I' q hn f => ?_) fun _ s' hq => wpAny_pure (wpAny_pure hq))
  show wpAny _ _ (assign (.Name y py) X.env (.ref L)) _ _ _
  refine wpAny_assign_Name (store_ok2 (v := V.ref L) I' hN hy (.inl hyl) rfl (fun s2 I2 ⟨a, sb, ha⟩ => ?_) (.inr hyl)); obtain ⟨f0, f1, f2, f3, f4, f5⟩ := f
  have haC : C ≠ a := by rcases ha with z | z; (· rw [z]; exact f1); (· exact fun e => f4 y a z e.symm)
  refine ⟨m, hn.sameBut sb haC, fun h3 sb3 => ⟨_, H', I2.turned (t' := s2.toks) (fun b o hb e => (sb3.2 b hb).trans e) f0 f1 f3 f4 f5, q⟩⟩
end
end Ox
namespace Ox
open PySem PySem.Spec PyProof.Rows L2
/-! ### sorted texts: one order -/
theorem nlt_trans : ∀ a b c : List Nat, ltCps b a = false → ltCps c b = false → ltCps c a = false
  | [], _, [], _, _ => rfl
  | [], [], _ :: _, _, _ => rfl
  | [], _ :: _, _ :: _, _, _ => rfl
  | _ :: _, [], _, h, _ => by cases h
  | _ :: _, _ :: _, [], _, h => by cases h
  | a :: r, b :: t, c :: u, h1, h2 => by
    have e1 : (decide (b < a) || (b == a && ltCps t r)) = false := h1
    have e2 : (decide (c < b) || (c == b && ltCps u t)) = false := h2
    show (decide (c < a) || (c == a && ltCps u r)) = false
    rw [Bool.or_eq_false_iff, decide_eq_false_iff_not] at e1 e2 ⊢
    refine ⟨by omega, ?_⟩
    by_cases h : c = a
    · have hb : b = a := by omega
      have hc : c = b := by omega
      have f1 := e1.2
      have f2 := e2.2
      rw [hb, beq_self_eq_true, Bool.true_and] at f1
      rw [hc, beq_self_eq_true, Bool.true_and] at f2
      rw [nlt_trans r t u f1 f2, Bool.and_false]
    · rw [beq_eq_false_iff_ne.mpr h, Bool.false_and]
theorem nlt_anti : ∀ a b : List Nat, ltCps b a = false → ltCps a b = false → a = b
  | [], [], _, _ => rfl
  | [], _ :: _, _, h => by cases h
  | _ :: _, [], h, _ => by cases h
  | a :: r, b :: t, h1, h2 => by
    have e1 : (decide (b < a) || (b == a && ltCps t r)) = false := h1
    have e2 : (decide (a < b) || (a == b && ltCps r t)) = false := h2
    rw [Bool.or_eq_false_iff, decide_eq_false_iff_not] at e1 e2
    have hb : b = a := by omega
    subst hb
    have f1 := e1.2
    have f2 := e2.2
    rw [beq_self_eq_true, Bool.true_and] at f1 f2
    rw [nlt_anti r t f1 f2]
abbrev LeS (a b : Str) : Prop := ltCps b.cps.toList a.cps.toList = false
theorem rising_pw : ∀ (p : Str) (l : List Str), risingS p l = true → (p :: l).Pairwise LeS
  | p, [], _ => List.pairwise_singleton _ _
  | p, x :: r, h => by
    have h1 : (!ltCps x.cps.toList p.cps.toList && risingS x r) = true := h
    rw [Bool.and_eq_true, Bool.not_eq_true'] at h1
    have ih := rising_pw x r h1.2
    refine List.pairwise_cons.mpr ⟨fun y hy => ?_, ih⟩
    rcases List.mem_cons.mp hy with e | hy
    · subst e
      exact h1.1
    · exact nlt_trans _ _ _ h1.1 ((List.pairwise_cons.mp ih).1 y hy)
theorem sorted_pw {l : List Str} (h : sortedS l = true) : l.Pairwise LeS := by
  cases l with
  | nil => exact .nil
  | cons x r => exact rising_pw x r h
theorem str_ext {a b : Str} (h : a.cps.toList = b.cps.toList) : a = b := by
  cases a with
  | mk a =>
    cases b with
    | mk b =>
      have e : a = b := Array.toList_inj.mp h
      rw [e]
theorem sorted_one {l l' : List Str} (h : sortedS l = true) (h' : sortedS l' = true) (p : l.Perm l') : l = l' :=
  List.Perm.eq_of_pairwise (le := LeS) (fun a b _ _ h1 h2 => str_ext (nlt_anti _ _ h1 h2)) (sorted_pw h) (sorted_pw h') p
/-! ### a heap without one place -/
def wo (H : Hp) (a : Addr) : Hp := fun b => if b = a then none else H b
theorem wo_at {H : Hp} {a : Addr} : wo H a a = none := if_pos rfl
theorem wo_ne {H : Hp} {a b : Addr} (h : b ≠ a) : wo H a b = H b := if_neg h
theorem wo_same {H : Hp} {a : Addr} : L2.Same (wo H a) H := fun b o e => by
  by_cases h : b = a
  · subst h
    rw [wo_at] at e
    cases e
  · rw [wo_ne h] at e
    exact e
theorem wo_mono {H H' : Hp} {a : Addr} (s : L2.Same H H') : L2.Same (wo H a) (wo H' a) := fun b o e => by
  by_cases h : b = a
  · subst h
    rw [wo_at] at e
    cases e
  · rw [wo_ne h] at e ⊢
    exact s b o e
theorem wo_upd {H : Hp} {a : Addr} {u : HO} : wo (upd H a u) a = wo H a := by
  funext b
  by_cases h : b = a
  · subst h
    rw [wo_at, wo_at]
  · rw [wo_ne h, wo_ne h, upd_ne h]
theorem same_wo {H H' : Hp} {a : Addr} {u : HO} (s : L2.Same H H') : L2.Same (wo H a) (upd H' a u) := same_upd (wo_same.trans s) wo_at
theorem len_put {f : Str} {v : V} {fs : List (Str × V)} {k : Nat} (h : fs.length < k) : (putF f v fs).length < k + 1 := Nat.lt_of_le_of_lt (length_putF _ _ _) (Nat.succ_lt_succ h)
end Ox
namespace Ox
open PySem PySem.Spec PyProof.Rows L2
/-! ### slices -/
def rPartA (x : V) (H : Hp) (R : Option Int → Hp → Prop) : Prop := ∃ i, x = .int i ∧ R (some i) H
section
variable {σ : L2.St} {H : Hp} {Q : VK} {te : TE} {tl th : TO} {K : PySem.W.Frag} {R : Option Int → Hp → Prop}
theorem x_sl {r : V → Option Int → Option Int → Hp → VK → Prop} (h : te σ H fun x H1 => tl σ H1 fun l H2 => th σ H2 fun u H3 => r x l u H3 Q) : tSl r te tl th σ H Q := h
theorem x_nopart (h : R none H) : tNoPart σ H R := h
theorem x_part (h : te σ H fun x H1 => rPartA x H1 R) : tPart te σ H R := h
theorem x_parti {i : Int} (h : R (some i) H) : rPartA (.int i) H R := ⟨i, rfl, h⟩
theorem x_slL {p : Addr} {xs : List V} {lo hi : Option Int} (h : SqL K H p xs) (q : ∀ l, H l = none → Q (.ref l) (upd H l (.lst (cutV xs lo hi)))) : rSlL K (.ref p) lo hi H Q := ⟨p, xs, rfl, h, q⟩
theorem cut_from {xs : List V} {lo : Int} (h0 : 0 ≤ lo) (h1 : lo ≤ xs.length) : cutV xs (some lo) none = xs.drop lo.toNat := by
  obtain ⟨k, rfl⟩ : ∃ k : Nat, lo = (k : Int) := ⟨lo.toNat, by omega⟩
  unfold cutV
  rw [HT.sIx_nat, HT.sIx_none, Int.toNat_natCast]
  have hk : min k xs.length = k := by omega
  rw [hk]
  exact List.take_of_length_le (by rw [List.length_drop]; omega)
theorem cut_to {xs : List V} {hi : Int} (h0 : 0 ≤ hi) (h1 : hi ≤ xs.length) : cutV xs none (some hi) = xs.take hi.toNat := by
  obtain ⟨k, rfl⟩ : ∃ k : Nat, hi = (k : Int) := ⟨hi.toNat, by omega⟩
  unfold cutV
  rw [HT.sIx_nat, HT.sIx_none, Int.toNat_natCast]
  have hk : min k xs.length = k := by omega
  rw [hk]
  rfl
end
/-! ### a list of whole numbers, asked at a place -/
theorem pickI (L : List Int) {j : Int} (h0 : 0 ≤ j) (h1 : j < L.length) : ∃ g, (L.map V.int)[j.toNat]? = some (.int g) ∧ g ∈ L := by
  have hlt : j.toNat < L.length := by omega
  refine ⟨L[j.toNat], ?_, List.getElem_mem hlt⟩
  rw [List.getElem?_map, List.getElem?_eq_getElem hlt]
  rfl
theorem pickS (L : List Str) {j : Int} (h0 : 0 ≤ j) (h1 : j < L.length) : ∃ g, (L.map V.str)[j.toNat]? = some (.str g) ∧ L[j.toNat]? = some g := by
  have hlt : j.toNat < L.length := by omega
  refine ⟨L[j.toNat], ?_, List.getElem?_eq_getElem hlt⟩
  rw [List.getElem?_map, List.getElem?_eq_getElem hlt]
  rfl
/-! ### stores, asked again -/
theorem lookup_putL {α : Type} (l : List (Str × α)) (z : Str) (x : α) (y : Str) : (putL l z x).lookup y = if y = z then some x else l.lookup y := by
  by_cases hz : z ∈ l.map (·.1)
  · rw [putL_old x hz]
    have key : ∀ l : List (Str × α), (l.map fun p => if p.1 = z then (p.1, x) else p).lookup y = if y = z then (if z ∈ l.map (·.1) then some x else none) else l.lookup y := by
      intro l
      induction l with
      | nil => by_cases e : y = z <;> simp [e]
      | cons p r ih =>
        rw [List.map_cons, List.lookup_cons, List.lookup_cons, ih]
        by_cases ep : p.1 = z
        · rw [if_pos ep]
          by_cases e : y = z
          · have : (y == p.1) = true := by rw [e, ep]; exact beq_self_eq_true z
            simp [e, ep]
          · have : (y == p.1) = false := by rw [ep]; exact beq_eq_false_iff_ne.mpr e
            simp [e, this]
        · rw [if_neg ep]
          by_cases e : y = z
          · have h2 : (y == p.1) = false := by rw [e]; exact beq_eq_false_iff_ne.mpr fun q => ep q.symm
            have h3 : (z ∈ (p :: r).map (·.1)) ↔ z ∈ r.map (·.1) := by
              rw [List.map_cons, List.mem_cons]
              exact ⟨fun h => h.resolve_left fun q => ep q.symm, .inr⟩
            rw [h2]
            simp only [e, if_true]
            by_cases h4 : z ∈ r.map (·.1)
            · rw [if_pos h4, if_pos (h3.mpr h4)]
            · rw [if_neg h4, if_neg fun q => h4 (h3.mp q)]
          · simp only [e, if_false]
    rw [key l, if_pos hz]
  · rw [putL_new x hz, List.lookup_append]
    by_cases e : y = z
    · rw [if_pos e, e, lookup_none hz]
      simp
    · rw [if_neg e]
      cases hl : l.lookup y with
      | some v => rfl
      | none =>
        have e2 : (y == z) = false := beq_eq_false_iff_ne.mpr e
        simp [List.lookup, e2]
theorem putL_keys2 {α β : Type} {l : List (Str × α)} {m : List (Str × β)} (h : m.map (·.1) = l.map (·.1)) (z : Str) (x : α) (y : β) : (putL m z y).map (·.1) = (putL l z x).map (·.1) := by
  by_cases hz : z ∈ l.map (·.1)
  · rw [putL_keys x hz, putL_keys y (by rw [h]; exact hz), h]
  · rw [putL_new x hz, putL_new y (by rw [h]; exact hz), List.map_append, List.map_append, h]
    rfl
theorem putL_pos {α : Type} (l : List (Str × α)) (z : Str) (x : α) : 1 ≤ (putL l z x).length := by
  by_cases hz : z ∈ l.map (·.1)
  · rw [putL_old x hz, List.length_map]
    cases l with
    | nil => cases hz
    | cons p r => exact Nat.succ_le_succ (Nat.zero_le _)
  · rw [putL_new x hz, List.length_append]
    exact Nat.le_add_left _ _
/-! ### heaps without the pool -/
theorem but_wo {p : Addr} {H H' : Hp} (b : But p H H') : L2.Same (wo H p) (wo H' p) := fun x o e => by
  by_cases h : x = p
  · subst h
    rw [wo_at] at e
    cases e
  · rw [wo_ne h] at e ⊢
    exact b x o e h
theorem wo_upd_ne {H : Hp} {p D : Addr} {u : HO} (h : D ≠ p) : wo (upd H D u) p = upd (wo H p) D u := by
  funext b
  by_cases e : b = p
  · subst e
    rw [wo_at, upd_ne (Ne.symm h), wo_at]
  · rw [wo_ne e]
    by_cases e2 : b = D
    · subst e2
      rw [upd_same, upd_same]
    · rw [upd_ne e2, upd_ne e2, wo_ne e]
theorem wo_none {H : Hp} {p a : Addr} (h : H a = none) : wo H p a = none := by
  by_cases e : a = p
  · rw [e]; exact wo_at
  · rw [wo_ne e]; exact h
theorem wo_some {H : Hp} {p a : Addr} {o : HO} (h : wo H p a = some o) : H a = some o ∧ a ≠ p := by
  by_cases e : a = p
  · rw [e, wo_at] at h
    cases h
  · rw [wo_ne e] at h
    exact ⟨h, e⟩
end Ox
namespace Ox
open PySem PySem.Spec PyProof.Rows L2
theorem same_made {H H1 H' : Hp} {x dx C : Addr} (s : L2.Same H H1) (nx : H1 x = none) (nd : H1 dx = none) (k : ∀ b o, (upd (upd H1 dx (.own x)) x (.ins C dx [])) b = some o → b ≠ x → H' b = some o) : L2.Same H H' := fun b o e => by
  have e1 := s b o e
  exact k b o (by rw [upd_ne (ne_of_none e1 nx), upd_ne (ne_of_none e1 nd)]; exact e1) (ne_of_none e1 nx)
end Ox

/-! Own layer, fourth part: enumerate(row), the row a list or a tuple. -/
namespace Ox
open PySem PySem.Spec PyProof.Rows L2
theorem meets_enum1 {v : Value} {o : Obj} {Hh : Heap → Prop} (B : Begins v o Hh) :
    Meets (Builtin.«enumerate.__new__» ⟨[.type "enumerate", v], []⟩) (fun _ R s => Hh s.heap ∧
      R (.ok (.ret (.ref (s.heap.push o).objs.size))) { s with heap := (s.heap.push o).push { cls := .type "enumerate", data := .fields #[.none, .bool false, .ref s.heap.objs.size, rawInt 0, .none, .none] } }) :=
  .of_wp fun prog w A R s h => by
    obtain ⟨hp, gs, dr, tk, os⟩ := s
    obtain ⟨h1, h2⟩ := h
    have hsub := sub_enumerate
    have q1 : ∀ {A' : Around} {E : Value → Shared → Prop} {Q : Value → Shared → Prop}, Q (.ref hp.objs.size) ⟨hp.push o, gs, dr, tk, os⟩ → wpAny (model prog w) A' (pyIter v) Q E ⟨hp, gs, dr, tk, os⟩ := fun q => B.iter prog w _ _ ⟨hp, gs, dr, tk, os⟩ _ h1 q
    wp_walk using q1
    refine wpAny_stack_any fun st => wpAny_pure ?_
    split
    · rename_i c _ _ _ _ _
      cases (c == Value.type "enumerate") <;> (wp_walk using q1; exact ⟨_, rfl, h2⟩)
    · wp_walk using q1; exact ⟨_, rfl, h2⟩
section
variable {prog : Program} {w : World} {A : Around} {E : Value → Shared → Prop} {s : Shared}
theorem enum1_begins {v : Value} {o : Obj} {Hh : Heap → Prop} {Q : Value → Shared → Prop} (B : Begins v o Hh) (h1 : Hh s.heap)
    (h : ∀ h', IsEnum h' (s.heap.objs.size + 1) s.heap.objs.size 0 .none → h'.get? s.heap.objs.size = some o → h'.objs.size = s.heap.objs.size + 2 → (∀ b o, s.heap.get? b = some o → h'.get? b = some o) → Q (.ref (s.heap.objs.size + 1)) { s with heap := h' }) :
    wpAny (model prog w) A (call (.type "enumerate") [v]) Q E s := by
  refine callType_new F.called_enumerate (by decide) (F.typeCall_enumerate_1 _) (F.newCall_enumerate_1 _) (fun obj => F.args_object_init_2 obj _) F.entry_enumerate_new (meets_enum1 B) ⟨h1, ?_⟩
  have hz : (s.heap.push o).objs.size = s.heap.objs.size + 1 := Heap.size_push ..
  show _ ∧ _
  rw [hz]
  have he : IsEnum ((s.heap.push o).push { cls := .type "enumerate", data := .fields #[.none, .bool false, .ref s.heap.objs.size, rawInt 0, .none, .none] }) (s.heap.objs.size + 1) s.heap.objs.size 0 .none := by
    have e := Heap.get?_push_size (s.heap.push o) (o := { cls := .type "enumerate", data := .fields #[.none, .bool false, .ref s.heap.objs.size, rawInt 0, .none, .none] }) rfl
    rw [hz] at e; exact e
  refine ⟨⟨_, he, rfl⟩, h _ he (Heap.get?_push_of_some _ (Heap.get?_push_size _ B.free)) (by rw [Heap.size_push, hz]) ?_⟩
  exact fun b ob x => Heap.get?_push_of_some _ (Heap.get?_push_of_some _ x)
end
/-- the tuple at a as it stands at each turn, each item in a new pair -/
def IteT (K : PySem.W.Frag) (a : Addr) : It :=
  ⟨fun i H => ∃ (xs : List V) (x : V), SqT K H a xs ∧ xs[i]? = some x, fun i H v H' => ∃ T x, v = .ref T ∧ H T = none ∧ H' = upd H T (.tup [.int (i : Nat), x]) ∧ ∀ xs, SqT K H a xs → xs[i]? = some x, fun i H => ∃ xs : List V, SqT K H a xs ∧ xs.length = i⟩
theorem turn_enumT {P : Program} {w : World} {K : PySem.W.Frag} {elts : List Expr} {kk : Nat} {tpos : Pos} (a e it : Addr) :
    Turn P w K (.Tuple elts kk tpos) (IteT K a) [e, it] e (fun i h => (∃ old, IsEnum h e it ((i : Nat) : Int) old) ∧ h.IsTupleIter it a i ∧ e ≠ it) where
  mem := by simp
  obj := fun i h st b hb => by
    obtain ⟨⟨old, he⟩, ⟨o, ho, hc, hd⟩, _⟩ := st
    rcases (show b = e ∨ b = it by simpa using hb) with z | z <;> rw [z]
    · exact ⟨_, he, fun v q => nomatch q⟩
    · exact ⟨o, ho, fun v q => by rw [hd] at q; cases q⟩
  keep := fun i h h' st k => ⟨st.1.imp fun old he => k e (by simp) _ he, st.2.1.at fun o q => k it (by simp) o q, st.2.2⟩
  item := by
    intro X hP hw hK hc i pins s σ H E I hf st hg; subst hP hw hK
    obtain ⟨⟨old, he⟩, hit, hne⟩ := st; obtain ⟨xs, x, hq, hx⟩ := hg
    obtain ⟨its, rv, p, hz⟩ := I.tuple hq
    have hT0 : s.heap.IsTuple a its.toArray := p
    obtain ⟨u, hu, ru⟩ := rv.get hx
    have hel : e < s.heap.objs.size := Heap.lt_size he
    have hil : it < s.heap.objs.size := by obtain ⟨_, q, _⟩ := hit; exact Heap.lt_size q
    have hai : a ≠ it := fun z => by
      obtain ⟨o1, q1, c1, _⟩ := hit; obtain ⟨o2, q2, c2, _⟩ := hT0
      rw [z, q1] at q2; cases q2; rw [c1] at c2; injection c2 with c3; exact absurd c3 (by decide)
    have hea : e ≠ a := fun z => by
      obtain ⟨o2, q2, c2, _⟩ := hT0
      rw [← z, show s.heap.get? e = _ from he] at q2; cases q2; injection c2 with c3; exact absurd c3 (by decide)
    have hh : X.A.in1.handled = none := I.ok.hd hc
    have hlt : i < its.toArray.size := by
      have := (List.getElem?_eq_some_iff.mp hu).1
      simpa using this
    refine wpAny_pyNext_enum_itemD (Draws.tuple hh it a hai its.toArray) he ⟨hit, hT0⟩ hlt hne (by simp [hne, hea]) fun y h' tk hy ho hst' hT hsz hk => ?_
    have ey : y = u := by
      have e1 : its.toArray[i]? = some u := by simpa using hu
      rw [e1] at hy
      exact (Option.some.inj hy).symm
    subst ey
    refine ⟨_, rfl, wpAny_letOwnedTupleGo_enum (s := { s with heap := h', toks := tk + 1 }) ho fun h'' he' sb => ?_⟩
    have hT2 : h''.get? s.heap.objs.size = some { cls := .type "tuple", data := .seq #[.int i tk, y] } := (sb.2 _ (Nat.ne_of_gt hel)).trans hT
    have new : ObjOk X.prog X.w (upd H s.heap.objs.size (.tup [.int (i : Nat), x])) h'' s.heap.objs.size (.tup [.int (i : Nat), x]) := ⟨by show 2 ≤ sizeLine; decide, [.int i tk, y], .cons ⟨_, rfl⟩ (.cons ru .nil), ⟨_, hT2, rfl, _, rfl⟩⟩
    have I1 : Inv X pins σ (upd H s.heap.objs.size (.tup [.int (i : Nat), x])) { s with heap := h'', toks := tk + 1 } :=
      I.turnedNew (ch := [e, it]) (fun b ob hb q => (sb.2 b (fun z => hb (by rw [z]; simp))).trans (hk b ob (fun z => hb (by rw [z]; simp)) (fun z => hb (by rw [z]; simp)) q)) hf (Nat.le_refl _) new
    refine ⟨.ref s.heap.objs.size, _, I1, rfl, ⟨_, x, rfl, I.hok.fresh (Nat.le_refl _), rfl, fun ys hy => by rw [I.tuple_inj hy hq]; exact hx⟩, ⟨⟨y, ?_⟩, hst'.1.at fun o q => (sb.2 it (Ne.symm hne)).trans q, hne⟩, fun b hb => ?_⟩
    · rw [show ((i + 1 : Nat) : Int) = (i : Int) + 1 by omega]; exact he'
    · have hb' : b < s.heap.objs.size := by rcases (show b = e ∨ b = it by simpa using hb) with z | z <;> (rw [z]; assumption)
      rw [upd_ne (Nat.ne_of_lt hb')]; exact (hf b hb).1
  done := by
    intro X hP hw hK hc i pins s σ H E I hf st hg; subst hP hw hK
    obtain ⟨⟨old, he⟩, hit, hne⟩ := st; obtain ⟨xs, hq, hx⟩ := hg
    obtain ⟨its, rv, p, hz⟩ := I.tuple hq
    have hT0 : s.heap.IsTuple a its.toArray := p
    obtain ⟨f0, f1, f2, f3, f4, f5⟩ := hf it (by simp)
    have hai : a ≠ it := fun z => by
      obtain ⟨o1, q1, c1, _⟩ := hit; obtain ⟨o2, q2, c2, _⟩ := hT0
      rw [z, q1] at q2; cases q2; rw [c1] at c2; injection c2 with c3; exact absurd c3 (by decide)
    have hh : X.A.in1.handled = none := I.ok.hd hc
    have hl := rv.length
    have hea : e ≠ a := fun z => by
      obtain ⟨o2, q2, c2, _⟩ := hT0
      rw [← z, show s.heap.get? e = _ from he] at q2; cases q2; injection c2 with c3; exact absurd c3 (by decide)
    have hn : its.toArray.size = i := by simp; omega
    subst hn
    exact wpAny_pyNext_enum_endD (Draws.tuple hh it a hai its.toArray) he ⟨hit, hT0⟩ fun h' eb => ⟨rfl, I.turned (t' := s.toks) (fun b o hb q => eb b o hb q) f0 f1 f3 f4 f5⟩
  self := fun A i s Q E st h => st.1.elim fun old he => wpAny_pyIter_enum he h
def iEnumT (K : PySem.W.Frag) (ta : TA) : TI := fun σ H R => ta σ H fun vs H1 => ∃ a xs, vs = [.ref a] ∧ ((SqL K H1 a xs ∧ R (Ite K a) H1) ∨ (SqT K H1 a xs ∧ R (IteT K a) H1))
theorem pi_enumT {X : Cx} {e : Expr} {ta : TA} {p pos tpos : Pos} {elts : List Expr} {kk : Nat} (hg : Gl X "enumerate") (hm : X.mg "enumerate" = none) (ha : PA X [e] ta) (hs : starEach [e] X.env = [(false, eval e X.env)] := by rfl) :
    PI X (.Tuple elts kk tpos) (.Call (.Name "enumerate" p) [e] [] pos) (iEnumT X.K ta) := by
  constructor; intro pins s σ H R I h
  refine Call_ (ld_blt I hg hm boot_enumerate (PyProof.Rows.callWith_type1 (thn (ha.run pos pins s σ H _ I h) fun us s1 ⟨vs, H1, I1, r1, q1⟩ => ?_) hs rfl))
  obtain ⟨a, xs, ex, hq⟩ := q1; subst ex
  obtain ⟨u, rfl, ru⟩ := vals1 r1
  cases ru
  have fresh : ∀ b, b = s1.heap.objs.size + 1 ∨ b = s1.heap.objs.size → FpOk X pins H1 b := fun b hb => by
    have hle : s1.heap.objs.size ≤ b := by rcases hb with z | z <;> rw [z] <;> omega
    exact I1.fpOk hle (I1.hok.fresh hle)
  rcases hq with ⟨hq, q⟩ | ⟨hq, q⟩
  · obtain ⟨its, rv, p', hz⟩ := I1.list hq
    refine call_enumerate_list p'.isList fun h' he hit hsz hk => wpAny_pyIter_enum he ⟨s1.heap.objs.size + 1, [s1.heap.objs.size + 1, s1.heap.objs.size], _, _, H1, rfl, I1.kept (t' := s1.toks) hk, turn_enum a (s1.heap.objs.size + 1) s1.heap.objs.size, ⟨⟨.none, he⟩, hit, Nat.succ_ne_self _⟩, fun b hb => fresh b (by simpa using hb), q⟩
  · obtain ⟨its, rv, p', hz⟩ := I1.tuple hq
    refine enum1_begins (begins_tuple a its.toArray) p' fun h' he hit hsz hk => wpAny_pyIter_enum he ⟨s1.heap.objs.size + 1, [s1.heap.objs.size + 1, s1.heap.objs.size], _, _, H1, rfl, I1.kept (t' := s1.toks) hk, turn_enumT a (s1.heap.objs.size + 1) s1.heap.objs.size, ⟨⟨.none, he⟩, ⟨_, hit, rfl, rfl⟩, Nat.succ_ne_self _⟩, fun b hb => fresh b (by simpa using hb), q⟩
/-! ### the loop over it -/
def LpE (K : PySem.W.Frag) (g : TG) (tb : TS) (D : Ends) (σ : L2.St) (vs : List V) (H : Hp) : Prop := ∃ a xs, vs = [.ref a] ∧ ((SqL K H a xs ∧ Lp (Ite K a) g tb D σ H) ∨ (SqT K H a xs ∧ Lp (IteT K a) g tb D σ H))
section
variable {σ : L2.St} {H : Hp} {n : L2.St → Hp → Prop} {r : VK} {b c : L2.St → Hp → Prop} {tb : TS} {g : TG} {K : PySem.W.Frag} {al : TA} {p : Addr}
theorem x_forE (h : al σ H fun x H1 => LpE K g tb ⟨n, r, b, c⟩ σ x H1) : tFor (iEnumT K al) g tb ⟨n, r, b, c⟩ σ H := h
/-- a list or a tuple -/
def SqR (K : PySem.W.Frag) (H : Hp) (a : Addr) (xs : List V) : Prop := SqL K H a xs ∨ SqT K H a xs
theorem lpE {xs : List V} (Pv : Nat → L2.St → Hp → Prop) (h : (∀ σ' H' i, i ≤ xs.length → Pv i σ' H' → SqL K H' p xs) ∨ (∀ σ' H' i, i ≤ xs.length → Pv i σ' H' → SqT K H' p xs)) (h0 : Pv 0 σ H)
    (hs : ∀ i x σ H T, xs[i]? = some x → Pv i σ H → H T = none → g (.ref T) σ (upd H T (.tup [.int (i : Nat), x])) fun σ2 H2 => tb ⟨Pv (i + 1), r, n, Pv (i + 1)⟩ σ2 H2) (hd : ∀ σ H, Pv xs.length σ H → n σ H) : LpE K g tb ⟨n, r, b, c⟩ σ [.ref p] H := by
  rcases h with h | h
  · refine ⟨p, xs, rfl, .inl ⟨h σ H 0 (Nat.zero_le _) h0, fun i k σ H => k = xs.length - i ∧ i ≤ xs.length ∧ Pv i σ H, ⟨_, rfl, Nat.zero_le _, h0⟩, ?_⟩⟩
    rintro i k σ1 H1 ⟨rfl, hi, hp⟩
    have q := h σ1 H1 i hi hp
    by_cases hlt : i < xs.length
    · refine .inr ⟨⟨xs, xs[i], q, by simp [hlt]⟩, Pv (i + 1), fun σ' H' p' => ⟨xs.length - (i + 1), by omega, rfl, hlt, p'⟩, fun x H' y => ?_⟩
      obtain ⟨T, v, rfl, hT, rfl, hv⟩ := y
      exact hs i v σ1 H1 T (hv xs q) hp hT
    · have e : i = xs.length := by omega
      subst e
      exact .inl ⟨⟨xs, q, Nat.le_refl _⟩, hd σ1 H1 hp⟩
  · refine ⟨p, xs, rfl, .inr ⟨h σ H 0 (Nat.zero_le _) h0, fun i k σ H => k = xs.length - i ∧ i ≤ xs.length ∧ Pv i σ H, ⟨_, rfl, Nat.zero_le _, h0⟩, ?_⟩⟩
    rintro i k σ1 H1 ⟨rfl, hi, hp⟩
    have q := h σ1 H1 i hi hp
    by_cases hlt : i < xs.length
    · refine .inr ⟨⟨xs, xs[i], q, by simp [hlt]⟩, Pv (i + 1), fun σ' H' p' => ⟨xs.length - (i + 1), by omega, rfl, hlt, p'⟩, fun x H' y => ?_⟩
      obtain ⟨T, v, rfl, hT2, rfl, hv⟩ := y
      exact hs i v σ1 H1 T (hv xs q) hp hT2
    · have e : i = xs.length := by omega
      subst e
      exact .inl ⟨⟨xs, q, rfl⟩, hd σ1 H1 hp⟩
end
end Ox
namespace Ox
open PySem PySem.Spec PyProof.Rows L2
/-! ### methods -/
section
variable {X : Cx} {k : Nat} {C : Addr} {m : Str} {ps : List Str} {sp : Sp} {o e : Expr} {es : List Expr} {ta : TE} {t : TA} {apos pos : Pos} {pl : Sem Bool}
theorem pe_mt (M : Met X.prog X.w X.K X.mg X.base C k m ps sp) (kc : Cls X.K C) (hr : Room k X.A) (he : PE X o ta) (ha : PA X (e :: es) t)
    (hst : starEach (e :: es) X.env = (false, eval e X.env) :: starEach es X.env := by rfl) (hpl : (backTo pos (starEach es X.env)).any (·.1) = false := by rfl)
    (ht : eval (.Call (.Attribute o m apos) (e :: es) [] pos) X.env = (do let ov ← eval o X.env; standAt apos.atName; let (f, first) ← holding [ov] (getMethod ov m pl); callWith pos f first (backTo pos (starEach (e :: es) X.env)) (backToKw pos (keywordEach [] X.env))) := by rfl) :
    PE X (.Call (.Attribute o m apos) (e :: es) [] pos) (tMeth C m sp [] E0 ta t) := by
  obtain ⟨f, fd, mt, F, hb⟩ := M.ex
  exact pe_meth he kc mt F hr hb .nil pass0 ha hst hpl ht
end
def rMtA (C : Addr) (m : Str) (x : V) (H : Hp) (Z : Prop) : Prop := ∃ a dx fs, x = .ref a ∧ H a = some (.ins C dx fs) ∧ fs.lookup m = none ∧ Z
section
variable {σ : L2.St} {H : Hp} {Q : VK} {ta : TE} {al : TA} {C : Addr} {m : Str} {sp : Sp} {K : PySem.W.Frag}
theorem x_mt (h : ta σ H fun x H1 => rMtA C m x H1 (al σ H1 fun vs H2 => sp (x :: vs) H2 Q E0)) : tMeth C m sp [] E0 ta al σ H Q := by
  show ta σ H fun x H1 => ∃ a dx fs, x = .ref a ∧ H1 a = some (.ins C dx fs) ∧ fs.lookup m = none ∧ al σ H1 fun vs H2 => sp (x :: (vs ++ [])) H2 Q E0
  have e : (fun (x : V) (H1 : Hp) => ∃ a dx fs, x = .ref a ∧ H1 a = some (.ins C dx fs) ∧ fs.lookup m = none ∧ al σ H1 fun vs H2 => sp (x :: (vs ++ [])) H2 Q E0) = fun x H1 => rMtA C m x H1 (al σ H1 fun vs H2 => sp (x :: vs) H2 Q E0) := by
    funext x H1
    have e2 : (fun (vs : List V) (H2 : Hp) => sp (x :: (vs ++ [])) H2 Q E0) = fun vs H2 => sp (x :: vs) H2 Q E0 := by
      funext vs H2
      rw [List.append_nil]
    rw [e2]
    rfl
  rw [e]
  exact h
theorem x_mti {a dx : Addr} {fs : List (Str × V)} {Z : Prop} (h : H a = some (.ins C dx fs)) (hl : fs.lookup m = none) (q : Z) : rMtA C m (.ref a) H Z := ⟨a, dx, fs, rfl, h, hl, q⟩
/-! ### isinstance(x, (list, tuple)) -/
theorem x_isiLT {x : V} {k : Kn} {tp : Addr} (h : Kd K H x k) (ht : H tp = some (.tup [.ty "list", .ty "tuple"])) (q : Q (.bl (isB k .lst || isB k .tup)) H) : rIsiT K [x, .ref tp] H Q := by
  refine ⟨x, tp, _, _, _, _, rfl, ht, .cons (.ty "list") (.cons (.ty "tuple") .nil), h.tyx, ?_, q⟩
  cases k <;> rfl
end
/-! ### x[i], x a list or a tuple -/
def rIxQ (K : PySem.W.Frag) : R2 := fun x y H Q => rIxL K x y H Q ∨ rIxT K x y H Q
theorem ix_seq {X : Cx} : IxR X (rIxQ X.K) := fun a b pins s σ H x y v u Q I rx ry h hs => h.elim (fun h => ix_list a b pins s σ H x y v u Q I rx ry h hs) fun h => ix_tup a b pins s σ H x y v u Q I rx ry h hs
theorem ix_seqK {X : Cx} {K : PySem.W.Frag} (e : X.K = K := by rfl) : IxR X (rIxQ K) := e ▸ ix_seq
theorem x_ixq {K : PySem.W.Frag} {H : Hp} {Q : VK} {p : Addr} {xs : List V} {k : Int} {v : V} (j : Nat) (h : SqR K H p xs) (hk : k = (j : Int)) (ha : xs[j]? = some v) (q : Q v H) : rIxQ K (.ref p) (.int k) H Q :=
  h.elim (fun h => .inl (x_ixl j h hk ha q)) fun h => .inr (x_ixt j h hk ha q)
theorem x_lenQ {K : PySem.W.Frag} {H : Hp} {Q : VK} {p : Addr} {xs : List V} (h : SqR K H p xs) (q : Q (.int xs.length) H) : rLenA K [V.ref p] H Q := h.elim (fun h => x_lenL h q) fun h => x_lenT h q
theorem x_listQ {K : PySem.W.Frag} {H : Hp} {Q : VK} {p : Addr} {xs : List V} (h : SqR K H p xs) (q : ∀ l, H l = none → Q (.ref l) (upd H l (.lst xs))) : rListA K [V.ref p] H Q := h.elim (fun h => x_listL h q) fun h => x_listT h q
end Ox

namespace Ox
open PySem PySem.Spec PyProof.Rows L2
/-! sorted(d, reverse=True), d a dict with text keys: a permutation of its keys -/
def codesOf : Value → List Nat
  | .str z _ => z.cps.toList
  | _ => []
def textOf : Value → Str
  | .str z _ => z
  | _ => ""
def ltCodes (v u : Value) : Bool := decide (codesOf v < codesOf u)
theorem swo_codes : SrtO.Swo ltCodes := by
  refine ⟨fun x y h => ?_, fun x y z h1 h2 => ?_⟩
  · exact decide_eq_false (List.lt_asymm (of_decide_eq_true (p := codesOf x < codesOf y) h))
  · have a := of_decide_eq_false (p := codesOf y < codesOf x) h1
    have b := of_decide_eq_false (p := codesOf z < codesOf y) h2
    exact decide_eq_false (p := codesOf z < codesOf x) (List.not_lt.mpr (List.le_trans (List.not_lt.mp a) (List.not_lt.mp b)))
theorem texts_in : ∀ {vs : List Value} {ks : List Str}, StrsAre vs ks → ∀ v ∈ vs, ∃ z t, v = Value.str z t := by
  intro vs ks h
  induction h with
  | nil => exact fun v hv => by cases hv
  | cons z t _ ih =>
    intro v hv
    rcases List.mem_cons.mp hv with rfl | hv
    · exact ⟨z, t, rfl⟩
    · exact ih v hv
theorem texts_of : ∀ {vs : List Value} {ks : List Str}, StrsAre vs ks → vs.map textOf = ks := by
  intro vs ks h
  induction h with
  | nil => rfl
  | cons z t _ ih =>
    rw [List.map_cons, ih]
    rfl
theorem texts_are : ∀ {vs : List Value}, (∀ v ∈ vs, ∃ z t, v = Value.str z t) → StrsAre vs (vs.map textOf) := by
  intro vs
  induction vs with
  | nil => exact fun _ => .nil
  | cons v r ih =>
    intro h
    obtain ⟨z, t, rfl⟩ := h v List.mem_cons_self
    exact .cons z t (ih fun u hu => h u (List.mem_cons_of_mem _ hu))
theorem texts_sortable {prog : Program} {w : World} {A : Around} {s : Shared} {a : Addr} {vs : List Value} {ks : List Str} (hT : StrsAre vs ks) (h2 : 2 ≤ vs.length) : SrtO.SortableO prog w A s a vs ltCodes := by
  intro h1 _
  refine ⟨oneType', fun Q E hq => ?_, fun p q hp hq => ?_⟩
  · obtain ⟨v1, v2, rest, rfl⟩ : ∃ v1 v2 rest, vs = v1 :: v2 :: rest := by
      cases vs with
      | nil => simp at h2
      | cons v1 r =>
        cases r with
        | nil => simp at h2
        | cons v2 r => exact ⟨v1, v2, r, rfl⟩
    rw [keyKind_strs hT]
    exact wpAny_pure hq
  · obtain ⟨x, t, ex⟩ := texts_in hT _ hp
    obtain ⟨y, u, ey⟩ := texts_in hT _ hq
    change wpAny (model prog w) A (keyLt' oneType' p.1 q.1) (fun r s1 => s1 = _ ∧ r = ltCodes p.1 q.1) (fun _ _ => False) _
    rw [ex, ey, keyLt'_oneType]
    exact oneLt_str ⟨rfl, rfl⟩
def rSortRev : List V → List V → Hp → VK → Prop := fun xs zs H Q => ∃ (d : Addr) (kvs : List (Key × V)) (ks : List Str), xs = [.ref d] ∧ zs = [.bl true] ∧ Rd H d (.dK kvs) ∧ kvs.map (·.1) = ks.map Sum.inr ∧ ks.length ≤ 10000 ∧
  ∀ (ys : List Str) (p : Addr), ys.Perm ks → H p = none → Q (.ref p) (upd H p (.lst (ys.map V.str)))
theorem call_sortRev {X : Cx} (calm : X.calm = true) : CallRK X (.builtin "sorted") [Str.ofString "reverse"] rSortRev := by
  intro pn st σ H args kws us ws Q I ra rk hq
  obtain ⟨d, kvs, ks, rfl, rfl, rd, ek, len, fin⟩ := hq
  obtain ⟨ud, rfl, rud⟩ := vals1 ra
  cases rud
  obtain ⟨w1, rfl, e1⟩ := vals1 rk
  obtain rfl : w1 = Value.bool true := e1
  obtain ⟨_, low, rows, rowsR, isd⟩ := dk_rd I.hok rd
  obtain ⟨epoch, atd⟩ := isd.dictAt
  have keyE : rows.map Prod.fst = ks.map Sum.inr := Eq.trans rowsR.keys.symm ek
  have lenE : rows.length = ks.length := by
    have t := congrArg List.length keyE
    simpa using t
  have line : ks.length ≤ sizeLine := by rw [sizeLine_eq]; omega
  refine call_function_entry_kw kind_sorted plain_sorted entry_sorted (args_sorted_rev _ _) ?_
  unfold Builtin.«sorted»
  refine wpAny_bind (m := checkCount "sorted" 1 1 _) (wpAny_pure (wpAny_bind (PySem.W.kdu_collect (A := X.A.in1) (PySem.W.kdl_dict (knd := mixKind X.prog X.w) (kvs := rows) (ep := epoch) low) (I.ok.hd calm) atd (by rw [lenE]; exact line) fun h1 t1 got keep isgot => ?_)))
  have gotL : got.toList.length = ks.length := (Array.length_toList ..).trans (isgot.1.trans lenE)
  have texts : StrsAre got.toList ks := strs_at gotL fun j v ev => by
    obtain ⟨key, _, er, ki⟩ := isgot.2 j v (by rw [← Array.getElem?_toList]; exact ev)
    have ekj : (ks.map Sum.inr)[j]? = some key := by rw [← keyE, List.getElem?_map, er]; rfl
    rw [List.getElem?_map] at ekj
    cases ez : ks[j]? with
    | none => rw [ez] at ekj; cases ekj
    | some z =>
      rw [ez] at ekj
      cases ekj
      obtain ⟨t, et⟩ := Value.isStrOf_shape (x := z) (v := v) ki
      exact ⟨z, t, rfl, et⟩
  have J : Inv X pn σ H { st with heap := h1, toks := t1 } := I.kept keep
  refine wpAny_bind (wpAny_newList ?_ (by rw [gotL]; rw [sizeLine_eq] at line; exact line))
  have isl : (h1.push (seqObj "list" got.toList.toArray 0)).get? h1.objs.size = some (seqObj "list" got.toList.toArray 0) := Heap.get?_push_size _ rfl
  change wpAny _ _ _ _ _ { st with heap := h1.push (seqObj "list" got.toList.toArray 0), toks := t1 }
  refine wpAny_bind (wpAny_holding (wpAny_call_entry_kw slot_list_sort ⟨_, isl, rfl⟩ entry_list_sort ?_ (args_list_sort_rev _ _)))
  refine SrtR.list_sort_ordR swo_codes isl (by rw [gotL]; exact line) (fun h2 => texts_sortable texts h2) fun out _ stable => ⟨_, rfl, ?_⟩
  have pm : out.Perm got.toList := stable.perm.trans (List.reverse_perm _)
  have outT : StrsAre out.reverse (out.reverse.map textOf) := texts_are fun v hv => texts_in texts v (pm.mem_iff.mp (List.mem_reverse.mp hv))
  have outP : (out.reverse.map textOf).Perm ks := by
    have t := ((List.reverse_perm out).trans pm).map textOf
    rw [texts_of texts] at t
    exact t
  obtain ⟨ep2, at2⟩ := sortedHeap_at (vs := got.toList) (out := out.toArray.reverse) isl
  have ylen : ((out.reverse.map textOf).map V.str).length ≤ sizeLine := by rw [List.length_map, outP.length_eq]; exact line
  have eo : out.reverse.toArray = out.toArray.reverse := by simp
  have laid := fun kept => J.laid (t' := t1) kept (Nat.le_refl h1.objs.size) (show ObjOk X.prog X.w _ _ _ (.lst ((out.reverse.map textOf).map V.str)) from ⟨ylen, out.reverse, ep2, vals_of_strs outT, by rw [eo]; exact at2⟩)
  refine wpAny_pure ⟨_, rfl, .ref h1.objs.size, _, laid fun b u eb => ?_, rfl, fin _ _ outP (J.hok.fresh (Nat.le_refl _))⟩
  have small := Heap.lt_size eb
  rw [sortedHeap_old (Nat.ne_of_lt small) (by rw [size_push']; exact Nat.lt_succ_of_lt small)]
  exact Heap.get?_push_of_some _ eb
end Ox

/-! Own layer, fifth part: tuple(d), a walk over a list or a tuple, dicts of data compared. -/
namespace Ox
open PySem PySem.Spec PyProof.Rows L2
/-! ### tuple(d) -/
section
variable {prog : Program} {w : World} {A : Around} {s : Shared} {E : Value → Shared → Prop}
theorem code_tuple_new_dict {K : Type} [DecidableEq K] {knd : KeyKind prog w K} {kvs : List (K × Value)} {ep : Nat} {d : Addr} {Q₁ : Value → Shared → Prop} (lo : (d == sysModules) = false) (hh : A.handled = none) (hat : s.heap.DictAt knd d kvs ep) (hn : kvs.length ≤ sizeLine)
    (h : ∀ (h' : Heap) (tk : Nat) (acc : Array Value), (∀ b o, s.heap.get? b = some o → h'.get? b = some o) → ItemsOf (fun i v => ∃ k x, kvs[i]? = some (k, x) ∧ knd.is k v = true) acc kvs.length →
      Q₁ (.ref h'.objs.size) { s with heap := h'.push { cls := .type "tuple", data := .seq acc }, toks := tk }) :
    codeAny (model prog w) A (.call (.builtin "tuple.__new__") ⟨[.type "tuple", .ref d], []⟩) (wants Q₁ E) s := by
  refine codeAny_of_tree ?_
  show wpAny _ A.in1 (do checkBuiltinCall "tuple.__new__" ⟨[.type "tuple", .ref d], []⟩; again (.builtin "tuple.__new__" ⟨[.type "tuple", .ref d], []⟩)) _ _ s
  refine wpAny_bind (wpAny_of_eq (F.newCall_tuple_1 _) (wpAny_pure ⟨plainId_quiet F.plain_tuple_new _, codeAny_builtin F.entry_tuple_new ?_⟩))
  rw [Around.under_plainId F.plain_tuple_new _]
  have hsub := sub_tuple_self
  have hinit := init_tuple_lookup
  have hmh := madeHere_tuple
  have hTI : s.TypeIs (.ref d) "dict" := hat.dictOf.typeIs
  have hh1 : A.in1.handled = none := hh
  wp_walk using wpAny_typeOf hTI, PySem.W.kdu_collect (A := A.in1) (PySem.W.kdl_dict (knd := knd) (kvs := kvs) (ep := ep) lo) hh1 hat hn
  intro h' tk acc hk hacc
  show wpAny _ _ (Builtin.Tuple.tupleExact acc.toList.toArray >>= fun v => ret v) _ _ _
  unfold Builtin.Tuple.tupleExact
  refine wpAny_bind (wpAny_newObj_type ?_ (by show acc.toList.toArray.size ≤ sizeLine; simp only [Array.toArray_toList]; rw [hacc.1]; exact hn))
  refine wpAny_pure ?_
  have e : acc.toList.toArray = acc := by simp
  rw [e]
  exact h h' tk acc hk hacc
theorem call_tuple_dict {K : Type} [DecidableEq K] {knd : KeyKind prog w K} {kvs : List (K × Value)} {ep : Nat} {d : Addr} {Q : Value → Shared → Prop} (lo : (d == sysModules) = false) (hh : A.handled = none) (hat : s.heap.DictAt knd d kvs ep) (hn : kvs.length ≤ sizeLine)
    (hQ : ∀ (h' : Heap) (tk : Nat) (acc : Array Value), (∀ b o, s.heap.get? b = some o → h'.get? b = some o) → ItemsOf (fun i v => ∃ k x, kvs[i]? = some (k, x) ∧ knd.is k v = true) acc kvs.length →
      Q (.ref h'.objs.size) { s with heap := h'.push { cls := .type "tuple", data := .seq acc }, toks := tk }) :
    wpAny (model prog w) A (call (.type "tuple") [.ref d]) Q E s := by
  refine callType_codes (Q₁ := fun obj s₁ => s₁.TypeIs obj "tuple" ∧ Q obj s₁) F.called_tuple (F.typeCall_tuple_1 _) F.entry_object_init
    (code_tuple_new_dict (A := A.in1) lo hh hat hn fun h' tk acc hk hacc => ⟨⟨_, Heap.get?_push_size _ rfl, rfl⟩, hQ h' tk acc hk hacc⟩) fun obj s₁ h₁ => ?_
  exact ⟨h₁.1, F.args_object_init_2 obj _, object_init_meets F.called_tuple.init.lookup F.called_tuple.made (by decide) prog w A.in1 _ s₁ ⟨h₁.1, rfl, h₁.2⟩⟩
end
def rTupD : List V → Hp → VK → Prop := fun xs H Q => ∃ p kvs, xs = [.ref p] ∧ Rd H p (.dK kvs) ∧ ∀ q, H q = none → Q (.ref q) (upd H q (.tup (kvs.map fun kv => kV kv.1)))
theorem call_tupD {X : Cx} (hc : X.calm = true) : CallR X (.type "tuple") rTupD := by
  intro pins s σ H xs us Q I r h
  obtain ⟨p, kvs, e, hk, q⟩ := h
  subst e
  obtain ⟨u, eu, rx⟩ := vals1 r
  subst eu
  obtain rfl : u = Value.ref p := rx
  obtain ⟨z, lo, vs, rk, hd⟩ := dk_rd I.hok hk
  obtain ⟨ep, hat⟩ := hd.dictAt
  have hl : kvs.length = vs.length := Paired.length rk
  have hz : vs.length ≤ sizeLine := by rw [← hl]; exact z
  refine call_tuple_dict (knd := mixKind X.prog X.w) lo (I.ok.hd hc) hat hz fun h' tk acc hkeep hacc => ?_
  have I2 : Inv X pins σ H { s with heap := h', toks := tk } := I.kept hkeep
  refine ⟨.ref h'.objs.size, upd H h'.objs.size (.tup (kvs.map fun kv => kV kv.1)), ?_, rfl, q _ (I2.hok.fresh (Nat.le_refl _))⟩
  refine I2.laid (t' := tk) (fun b o e => Heap.get?_push_of_some _ e) (Nat.le_refl _) (show ObjOk X.prog X.w _ _ _ (.tup (kvs.map fun kv => kV kv.1)) from ?_)
  refine ⟨?_, acc.toList, ?_, ?_⟩
  · rw [List.length_map, hl]; exact hz
  · have el : acc.toList.length = acc.size := by simp
    refine vals_of_at (by rw [List.length_map, el, hacc.1, hl]) fun j x w h1 h2 => ?_
    obtain ⟨k, y, hky, hi⟩ := hacc.2 j w (by rw [← Array.getElem?_toList]; exact h2)
    have e1 : (kvs.map (·.1))[j]? = some k := by
      rw [KV.keys rk, List.getElem?_map, hky] <;> rfl
    have e2 : (kvs.map fun kv => kV kv.1)[j]? = some (kV k) := by
      have e3 : (kvs.map fun kv => kV kv.1) = (kvs.map (·.1)).map kV := by rw [List.map_map] <;> rfl
      rw [e3, List.getElem?_map, e1] <;> rfl
    rw [e2] at h1
    cases h1
    exact keyIs_rel hi
  · exact ⟨_, Heap.get?_push_size _ rfl, rfl, by simp⟩
end Ox
namespace Ox
open PySem PySem.Spec PyProof.Rows L2
/-! ### a list or a tuple, walked -/
def iSeq (K : PySem.W.Frag) (te : TE) : TI := fun σ H R => te σ H fun x H1 => ∃ a, x = .ref a ∧ (((∃ xs, SqL K H1 a xs) ∧ R (Itl K a) H1) ∨ ((∃ xs, SqT K H1 a xs) ∧ R (Itt K a) H1))
theorem pi_seq {X : Cx} {tg l : Expr} {tl : TE} (hl : PE X l tl) : PI X tg l (iSeq X.K tl) := by
  refine ⟨fun pins s σ H R I h => ?_⟩
  refine thn (hl.run pins s σ H _ I h) fun v s1 ⟨x, H1, I1, r1, q1⟩ => ?_
  obtain ⟨a, e, ⟨⟨xs, hq⟩, q⟩ | ⟨⟨xs, hq⟩, q⟩⟩ := q1
  · subst e
    cases r1
    obtain ⟨its, rv, p, hz⟩ := I1.list hq
    refine wpAny_pyIter_list p.isList ?_
    refine ⟨s1.heap.objs.size, [s1.heap.objs.size], _, _, H1, rfl, I1.kept (t' := s1.toks) fun b o e => Heap.get?_push_of_some _ e, turn_list a _, ⟨_, Heap.get?_push_size _ rfl, rfl, rfl⟩, fun b hb => ?_, q⟩
    have e : b = s1.heap.objs.size := by simpa using hb
    subst e
    exact I1.fpOk (Nat.le_refl _) (I1.hok.fresh (Nat.le_refl _))
  · subst e
    cases r1
    obtain ⟨its, rv, p, hz⟩ := I1.tuple hq
    refine wpAny_pyIter_tuple (show s1.heap.IsTuple a its.toArray from p) ?_
    refine ⟨s1.heap.objs.size, [s1.heap.objs.size], _, _, H1, rfl, I1.kept (t' := s1.toks) fun b o e => Heap.get?_push_of_some _ e, turn_tuple a _, ⟨_, Heap.get?_push_size _ rfl, rfl, rfl⟩, fun b hb => ?_, q⟩
    have e : b = s1.heap.objs.size := by simpa using hb
    subst e
    exact I1.fpOk (Nat.le_refl _) (I1.hok.fresh (Nat.le_refl _))
def RunSq (K : PySem.W.Frag) (R : It → Hp → Prop) (x : V) (H : Hp) : Prop := ∃ a, x = .ref a ∧ (((∃ xs, SqL K H a xs) ∧ R (Itl K a) H) ∨ ((∃ xs, SqT K H a xs) ∧ R (Itt K a) H))
section
variable {σ : L2.St} {H : Hp} {te : TE} {R : It → Hp → Prop} {K : PySem.W.Frag} {n : L2.St → Hp → Prop} {r : VK} {b c : L2.St → Hp → Prop} {tb : TS} {g : TG} {p : Addr}
theorem x_iSq (h : te σ H fun x H1 => RunSq K R x H1) : iSeq K te σ H R := h
def LpSq (K : PySem.W.Frag) (g : TG) (tb : TS) (D : Ends) (σ : L2.St) (x : V) (H : Hp) : Prop := RunSq K (fun J H1 => Lp J g tb D σ H1) x H
theorem x_forSq (h : te σ H fun x H1 => LpSq K g tb ⟨n, r, b, c⟩ σ x H1) : tFor (iSeq K te) g tb ⟨n, r, b, c⟩ σ H := h
theorem runSq {xs : List V} (h : SqR K H p xs) (q : ∀ (J : It) (G : Hp → Prop), (∀ H', L2.Same H H' → G H') → L2.Walk J xs.length G (L2.YAt xs) → R J H) : RunSq K R (.ref p) H := by
  rcases h with h | h
  · exact ⟨p, rfl, .inl ⟨⟨xs, h⟩, q _ (fun H' => SqL K H' p xs) (fun H' s => s.seq h) walk_list⟩⟩
  · exact ⟨p, rfl, .inr ⟨⟨xs, h⟩, q _ (fun H' => SqT K H' p xs) (fun H' s => same_t s h) walk_tup⟩⟩
end
end Ox
namespace Ox
open PySem PySem.Spec PyProof.Rows L2
/-! ### dicts compared, their values data -/
def DvAt (K : PySem.W.Frag) (H : Hp) (ks : List (Key × V)) (f : Key → PyData) : Prop := ∀ p ∈ ks, Dp K H p.2 (f p.1) ∧ SeqAt.shaped (f p.1) = true
def eqKB (ks ls : List (Key × V)) (f g : Key → PyData) : Bool := (ks.length == ls.length) && ks.all fun p => (valV ls p.1).isSome && PyData.eqv (f p.1) (g p.1)
def rEqDD (K : PySem.W.Frag) : R2 := fun x y H Q => ∃ a b ks ls f g, x = .ref a ∧ y = .ref b ∧ Rd H a (.dK ks) ∧ Rd H b (.dK ls) ∧ DvAt K H ks f ∧ DvAt K H ls g ∧ Q (.bl (eqKB ks ls f g)) H
def rNeDD (K : PySem.W.Frag) : R2 := fun x y H Q => ∃ a b ks ls f g, x = .ref a ∧ y = .ref b ∧ Rd H a (.dK ks) ∧ Rd H b (.dK ls) ∧ DvAt K H ks f ∧ DvAt K H ls g ∧ Q (.bl (!eqKB ks ls f g)) H
theorem valV_in {kvs : List (Key × V)} {k : Key} {v : V} (h : valV kvs k = some v) : (k, v) ∈ kvs := valV_mem h
theorem hitsD {X : Cx} {pins : List (Addr × Obj)} {σ : L2.St} {H : Hp} {s : Shared} (I : Inv X pins σ H s) {A : Around} (hu : A.units + 64 < cLine) {ls : List (Key × V)} {vb : List (Key × Value)} (rb : KV ls vb) {g f : Key → PyData} (hg : DvAt X.K H ls g) {ks : List (Key × V)} {va : List (Key × Value)} (ra : KV ks va) :
    DvAt X.K H ks f → PySem.W.KeqHits A s vb va (ks.all fun p => (valV ls p.1).isSome && PyData.eqv (f p.1) (g p.1)) := by
  unfold KV at ra
  induction ra with
  | nil => intro _; exact .nil
  | @cons p q ps qs h t ih =>
    intro hp
    obtain ⟨h1, h2⟩ := h
    obtain ⟨k, v⟩ := q
    have h1' : p.1 = k := h1
    have hd := hp p List.mem_cons_self
    cases e : valV ls p.1 with
    | none =>
      have rr : RelO none (valueAt vb p.1) := by rw [← e]; exact rb.val p.1
      have hn : valueAt vb k = none := by
        rw [← h1']
        cases hq : valueAt vb p.1 with
        | none => rfl
        | some y => rw [hq] at rr; exact rr.elim
      have eb : ((p :: ps).all fun p => (valV ls p.1).isSome && PyData.eqv (f p.1) (g p.1)) = false := by
        rw [List.all_cons, e]
        rfl
      rw [eb]
      exact .miss hn
    | some z =>
      have rr : RelO (some z) (valueAt vb p.1) := by rw [← e]; exact rb.val p.1
      obtain ⟨y, hy, ry⟩ := rr.some_of
      rw [h1'] at hy
      have hz := hg (p.1, z) (valV_in e)
      obtain ⟨as, r1⟩ := Dp.reads I (f p.1) p.2 v hd.1 h2
      obtain ⟨bs, r2⟩ := Dp.reads I (g p.1) z y hz.1 ry
      have eb : ((p :: ps).all fun p => (valV ls p.1).isSome && PyData.eqv (f p.1) (g p.1)) = (PyData.eqv (f p.1) (g p.1) && ps.all fun p => (valV ls p.1).isSome && PyData.eqv (f p.1) (g p.1)) := by
        rw [List.all_cons, e]
        rfl
      rw [eb]
      exact .hit hy (SeqAt.eqAt_reads _ _ A s v y as bs r1 r2 (SeqAt.canLay_of_shaped hd.2) (SeqAt.canLay_of_shaped hz.2) (SeqAt.room_of_shaped hd.2 hu)) (ih fun p' hm => hp p' (List.mem_cons_of_mem _ hm))
section
variable {X : Cx}
theorem op_eqDD (hu : X.A.units + 65 < cLine) : OpR X (compareOp .Eq) (rEqDD X.K) := by
  intro pins s σ H x y v u Q I rx ry h
  obtain ⟨a, b, ks, ls, f, g, rfl, rfl, ea, eb, hf, hg, q⟩ := h
  obtain rfl : v = Value.ref a := rx
  obtain rfl : u = Value.ref b := ry
  obtain ⟨_, ya, va, ra, da⟩ := dk_rd I.hok ea
  obtain ⟨_, yb, vb, rb, db⟩ := dk_rd I.hok eb
  have e : eqKB ks ls f g = (va.length == vb.length && ks.all fun p => (valV ls p.1).isSome && PyData.eqv (f p.1) (g p.1)) := by
    unfold eqKB
    rw [Paired.length ra, Paired.length rb]
  rw [e] at q
  exact PySem.W.keq_eq (knd := mixKind X.prog X.w) ya yb da db (by omega) (fun _ => hitsD I (by show X.A.units + 1 + 64 < cLine; omega) rb hg ra hf) ⟨.bl _, H, I, rfl, q⟩
theorem op_neDD (hu : X.A.units + 65 < cLine) : OpR X (compareOp .NotEq) (rNeDD X.K) := by
  intro pins s σ H x y v u Q I rx ry h
  obtain ⟨a, b, ks, ls, f, g, rfl, rfl, ea, eb, hf, hg, q⟩ := h
  obtain rfl : v = Value.ref a := rx
  obtain rfl : u = Value.ref b := ry
  obtain ⟨_, ya, va, ra, da⟩ := dk_rd I.hok ea
  obtain ⟨_, yb, vb, rb, db⟩ := dk_rd I.hok eb
  have e : eqKB ks ls f g = (va.length == vb.length && ks.all fun p => (valV ls p.1).isSome && PyData.eqv (f p.1) (g p.1)) := by
    unfold eqKB
    rw [Paired.length ra, Paired.length rb]
  rw [e] at q
  exact PySem.W.keq_ne (knd := mixKind X.prog X.w) ya yb da db (by omega) (fun _ => hitsD I (by show X.A.units + 1 + 64 < cLine; omega) rb hg ra hf) ⟨.bl _, H, I, rfl, q⟩
end
/-! rows of texts under text keys -/
def ssD (ws : List Str) : PyData := .tuple (ws.map PyData.str)
theorem dpAll_strs {K : PySem.W.Frag} {H : Hp} : ∀ ws : List Str, DpAll K H (ws.map V.str) (ws.map PyData.str)
  | [] => .nil
  | z :: r => .cons (.str z) (dpAll_strs r)
end Ox
namespace Ox
open PySem PySem.Spec PyProof.Rows L2
theorem hu65 {A : Around} {k : Nat} (r : Room k A) : A.units + 65 < cLine := by have := r.un; omega
end Ox
namespace Ox
open PySem PySem.Spec PyProof.Rows L2
theorem wipe_one {σ : L2.St} {n : Nat} {v : Option V} : wipe ((wipe σ [n]).set n v) [n] = wipe σ [n] := by
  show ((σ.set n none).set n v).set n none = σ.set n none
  rw [List.set_set, List.set_set]
theorem filt_snoc {α : Type} {as : List α} {p : α → Bool} {i : Nat} {a : α} (h : as[i]? = some a) : (as.take (i + 1)).filter p = (as.take i).filter p ++ (if p a = true then [a] else []) := by
  have e : as.take (i + 1) = as.take i ++ [a] := by rw [List.take_succ, h]; rfl
  rw [e, List.filter_append, List.filter_cons]
  rfl
/-- a list comprehension over what c makes of the items of as: those with p, f of them -/
theorem lcFM {α : Type} {as : List α} {c : α → V} {J : It} {G : Hp → Prop} {n : Nat} {σ : L2.St} {H : Hp} {D : Addr} {Qd : Hp → Prop} {tt : TT} {te : TE} (w : L2.Walk J (as.map c).length G (L2.YAt (as.map c))) (hG : ∀ H', L2.Same H H' → G H') (hD : H D = none) (p : α → Bool) (f : α → V) (hl : as.length ≤ 10000)
    (ht : ∀ a ∈ as, ∀ H', L2.Same H H' → ∀ R : Bool → Hp → Prop, (∀ H'', L2.Same H' H'' → R (p a) H'') → tt ((wipe σ [n]).set n (some (c a))) H' R)
    (he : ∀ a ∈ as, p a = true → ∀ H', L2.Same H H' → ∀ Qk : VK, (∀ H'', L2.Same H' H'' → Qk (f a) H'') → te ((wipe σ [n]).set n (some (c a))) H' Qk)
    (k : ∀ H', L2.Same H H' → H' D = some (.lst ((as.filter p).map f)) → Qd H') : LcP J (gName n) tt te [n] σ D Qd H := by
  refine lc_by w (fun i H' => L2.Same H H' ∧ H' D = some (.lst (((as.take i).filter p).map f))) ⟨same_new hD, upd_same⟩ (fun i H' _ h => hG H' h.1) ?_ ?_
  · rintro i x H1 H2 hi ⟨s1, h1⟩ ⟨rfl, hx⟩
    rw [List.getElem?_map] at hx
    cases ha : as[i]? with
    | none => rw [ha] at hx; cases hx
    | some a =>
      rw [ha] at hx
      have ex : c a = x := Option.some.inj hx
      subst ex
      have hm := List.mem_of_getElem? ha
      refine x_g1 ⟨wipe_one, ?_⟩
      refine ht a hm H2 s1 _ fun H3 s3 => ?_
      have fl := filt_snoc (p := p) ha
      cases hp : p a with
      | true =>
        rw [hp, if_pos rfl] at fl
        refine x_T ?_
        refine he a hm hp H3 (s1.trans s3) _ fun H4 s4 => ?_
        have len : ((as.take i).filter p).length ≤ 10000 - 1 := by
          have := List.length_filter_le p (as.take i)
          rw [List.length_take] at this
          rw [List.length_map] at hi
          omega
        refine ⟨_, s4 _ _ (s3 _ _ h1), sz_lt (by rw [List.length_map]; omega), same_upd ((s1.trans s3).trans s4) hD, ?_⟩
        rw [upd_same, fl, List.map_append]
        rfl
      | false =>
        rw [hp, if_neg Bool.false_ne_true, List.append_nil] at fl
        refine x_F ?_
        refine ⟨s1.trans s3, ?_⟩
        rw [fl]
        exact s3 _ _ h1
  · rintro H1 ⟨s1, h1⟩
    rw [List.length_map, List.take_length] at h1
    exact k H1 s1 h1
/-- a dict comprehension: of those with p, the text kf and f of them; the texts are all different -/
theorem dcFM {α β : Type} {as : List α} {c : α → V} {g : β → V} {J : It} {G : Hp → Prop} {n : Nat} {σ : L2.St} {H : Hp} {D : Addr} {Qd : Hp → Prop} {tt : TT} {tk tv : TE} (w : L2.Walk J (as.map c).length G (L2.YAt (as.map c))) (hG : ∀ H', L2.Same H H' → G H') (hD : H D = none) (p : α → Bool) (kf : α → Str) (f : α → β) (hl : as.length ≤ 9999)
    (nd : ((as.filter p).map kf).Nodup)
    (ht : ∀ a ∈ as, ∀ H', L2.Same H H' → ∀ R : Bool → Hp → Prop, (∀ H'', L2.Same H' H'' → R (p a) H'') → tt ((wipe σ [n]).set n (some (c a))) H' R)
    (hk : ∀ a ∈ as, p a = true → ∀ H', L2.Same H H' → ∀ Qk : VK, (∀ H'', L2.Same H' H'' → Qk (.str (kf a)) H'') → tk ((wipe σ [n]).set n (some (c a))) H' Qk)
    (he : ∀ a ∈ as, p a = true → ∀ H', L2.Same H H' → ∀ Qk : VK, (∀ H'', L2.Same H' H'' → Qk (g (f a)) H'') → tv ((wipe σ [n]).set n (some (c a))) H' Qk)
    (k : ∀ H', L2.Same H H' → H' D = some (.dK (strK g ((as.filter p).map fun a => (kf a, f a)))) → Qd H') : DcP J (gName n) tt tk tv [n] σ D Qd H := by
  refine dc_by w (fun i H' => L2.Same H H' ∧ H' D = some (.dK (strK g (((as.take i).filter p).map fun a => (kf a, f a))))) ⟨same_new hD, upd_same⟩ (fun i H' _ h => hG H' h.1) ?_ ?_
  · rintro i x H1 H2 hi ⟨s1, h1⟩ ⟨rfl, hx⟩
    rw [List.getElem?_map] at hx
    cases ha : as[i]? with
    | none => rw [ha] at hx; cases hx
    | some a =>
      rw [ha] at hx
      have ex : c a = x := Option.some.inj hx
      subst ex
      have hm := List.mem_of_getElem? ha
      refine x_g1 ⟨wipe_one, ?_⟩
      refine ht a hm H2 s1 _ fun H3 s3 => ?_
      have fl := filt_snoc (p := p) ha
      cases hp : p a with
      | true =>
        rw [hp, if_pos rfl] at fl
        refine x_T ?_
        refine hk a hm hp H3 (s1.trans s3) _ fun H4 s4 => ?_
        refine he a hm hp H4 ((s1.trans s3).trans s4) _ fun H5 s5 => ?_
        have len : ((as.take i).filter p).length ≤ 9998 := by
          have := List.length_filter_le p (as.take i)
          rw [List.length_take] at this
          rw [List.length_map] at hi
          omega
        have fresh : kf a ∉ (((as.take i).filter p).map fun a => (kf a, f a)).map (·.1) := fun hmem => by
          rw [List.map_map] at hmem
          have e1 : as = as.take (i + 1) ++ as.drop (i + 1) := (List.take_append_drop _ _).symm
          rw [e1, List.filter_append, fl, List.map_append, List.map_append] at nd
          exact (List.nodup_append.mp (List.nodup_append.mp nd).1).2.2 (kf a) hmem (kf a) List.mem_cons_self rfl
        refine ⟨_, Sum.inr (kf a), rfl, s5 _ _ (s4 _ _ (s3 _ _ h1)), sz_lt (by rw [List.length_map, List.length_map]; omega), same_upd (((s1.trans s3).trans s4).trans s5) hD, ?_⟩
        rw [upd_same, strK_put, putL_new _ fresh, fl, List.map_append]
        rfl
      | false =>
        rw [hp, if_neg Bool.false_ne_true, List.append_nil] at fl
        refine x_F ?_
        refine ⟨s1.trans s3, ?_⟩
        rw [fl]
        exact s3 _ _ h1
  · rintro H1 ⟨s1, h1⟩
    rw [List.length_map, List.take_length] at h1
    exact k H1 s1 h1
/-! texts compared -/
theorem eqvAll_strs : ∀ xs ys : List Str, PyData.eqvAll (xs.map PyData.str) (ys.map PyData.str) = decide (xs = ys)
  | [], [] => rfl
  | [], _ :: _ => rfl
  | _ :: _, [] => rfl
  | x :: r, y :: t => by
    show (PyData.eqv (.str x) (.str y) && PyData.eqvAll (r.map PyData.str) (t.map PyData.str)) = _
    rw [eqvAll_strs r t]
    have e : PyData.eqv (.str x) (.str y) = decide (x = y) := by
      show (x == y) = _
      by_cases h : x = y
      · rw [h]; simp
      · have h2 : (x == y) = false := by simpa using h
        rw [h2]
        exact (decide_eq_false h).symm
    rw [e]
    by_cases h : x = y
    · by_cases h2 : r = t
      · simp [h, h2]
      · simp [h, h2]
    · simp [h]
theorem strs_lay : ∀ xs : List Str, (∀ z ∈ xs, PyData.strOk z = true) → PyData.canLayAll0 (xs.map PyData.str) = true ∧ PyData.depthAll (xs.map PyData.str) = 0
  | [], _ => ⟨rfl, rfl⟩
  | x :: r, h => by
    obtain ⟨h1, h2⟩ := strs_lay r fun y hy => h y (List.mem_cons_of_mem _ hy)
    have h3 := h x List.mem_cons_self
    rw [List.map_cons]
    refine ⟨?_, ?_⟩
    · show (PyData.strOk x && PyData.canLayAll0 (r.map PyData.str)) = true
      rw [h1, h3]
      rfl
    · show max 0 (PyData.depthAll (r.map PyData.str)) = 0
      rw [h2]
      rfl
theorem ssD_shaped {xs : List Str} (h : ∀ z ∈ xs, PyData.strOk z = true) : SeqAt.shaped (ssD xs) = true := by
  obtain ⟨h1, h2⟩ := strs_lay xs h
  unfold SeqAt.shaped
  have e1 : PyData.canLay0 (ssD xs) = true := h1
  have e2 : PyData.depth (ssD xs) ≤ 64 := by
    show PyData.depthAll (xs.map PyData.str) + 1 ≤ 64
    rw [h2]
    decide
  rw [e1, decide_eq_true e2]
  rfl
theorem ssL_shaped {xs : List Str} (h : ∀ z ∈ xs, PyData.strOk z = true) : SeqAt.shaped (.list (xs.map PyData.str)) = true := ssD_shaped h
theorem ssD_eqv (xs ys : List Str) : PyData.eqv (ssD xs) (ssD ys) = decide (xs = ys) := eqvAll_strs xs ys
section
variable {K : PySem.W.Frag} {H : Hp} {Q : VK} {a b : Addr} {xs ys : List Str}
theorem x_neTS (ha : SqT K H a (xs.map V.str)) (hb : SqT K H b (ys.map V.str)) (hx : ∀ z ∈ xs, PyData.strOk z = true) (hy : ∀ z ∈ ys, PyData.strOk z = true) (q : Q (.bl (!decide (xs = ys))) H) : rNeD K (.ref a) (.ref b) H Q :=
  ⟨_, _, .tup ha (dpAll_strs xs), .tup hb (dpAll_strs ys), ssD_shaped hx, ssD_shaped hy, by rw [show PyData.eqv (.tuple (xs.map PyData.str)) (.tuple (ys.map PyData.str)) = decide (xs = ys) from ssD_eqv xs ys]; exact q⟩
theorem x_neLS (ha : SqL K H a (xs.map V.str)) (hb : SqL K H b (ys.map V.str)) (hx : ∀ z ∈ xs, PyData.strOk z = true) (hy : ∀ z ∈ ys, PyData.strOk z = true) (q : Q (.bl (!decide (xs = ys))) H) : rNeD K (.ref a) (.ref b) H Q :=
  ⟨_, _, .lst ha (dpAll_strs xs), .lst hb (dpAll_strs ys), ssL_shaped hx, ssL_shaped hy, by rw [show PyData.eqv (.list (xs.map PyData.str)) (.list (ys.map PyData.str)) = decide (xs = ys) from eqvAll_strs xs ys]; exact q⟩
theorem x_eqTS (ha : SqT K H a (xs.map V.str)) (hb : SqT K H b (ys.map V.str)) (hx : ∀ z ∈ xs, PyData.strOk z = true) (hy : ∀ z ∈ ys, PyData.strOk z = true) (q : Q (.bl (decide (xs = ys))) H) : rEqD K (.ref a) (.ref b) H Q :=
  ⟨_, _, .tup ha (dpAll_strs xs), .tup hb (dpAll_strs ys), ssD_shaped hx, ssD_shaped hy, by rw [show PyData.eqv (.tuple (xs.map PyData.str)) (.tuple (ys.map PyData.str)) = decide (xs = ys) from ssD_eqv xs ys]; exact q⟩
theorem x_eqLS (ha : SqL K H a (xs.map V.str)) (hb : SqL K H b (ys.map V.str)) (hx : ∀ z ∈ xs, PyData.strOk z = true) (hy : ∀ z ∈ ys, PyData.strOk z = true) (q : Q (.bl (decide (xs = ys))) H) : rEqD K (.ref a) (.ref b) H Q :=
  ⟨_, _, .lst ha (dpAll_strs xs), .lst hb (dpAll_strs ys), ssL_shaped hx, ssL_shaped hy, by rw [show PyData.eqv (.list (xs.map PyData.str)) (.list (ys.map PyData.str)) = decide (xs = ys) from eqvAll_strs xs ys]; exact q⟩
theorem x_tupD {p : Addr} {kvs : List (Key × V)} (h : Rd H p (.dK kvs)) (q : ∀ l, H l = none → Q (.ref l) (upd H l (.tup (kvs.map fun kv => kV kv.1)))) : rTupD [V.ref p] H Q := ⟨p, kvs, rfl, h, q⟩
end
end Ox

/-! Own layer: sorted(a list of tuples of whole numbers, of any lengths, the empty one ahead). -/
namespace Ox
open PySem PySem.Spec PyProof.Rows L2
theorem lex_asym : ∀ a b : List Int, HT.lexLt a b = true → HT.lexLt b a = false
  | [], [], h => by cases h
  | [], _ :: _, _ => rfl
  | _ :: _, [], h => by cases h
  | x :: r, y :: t, h => by
    rw [HT.lexLt_cons] at h ⊢
    by_cases e : x = y
    · rw [if_pos e] at h
      rw [if_pos e.symm]
      exact lex_asym r t h
    · rw [if_neg e] at h
      rw [if_neg (fun q => e q.symm)]
      have := of_decide_eq_true h
      exact decide_eq_false (by omega)
theorem lex_trans : ∀ a b c : List Int, HT.lexLt b a = false → HT.lexLt c b = false → HT.lexLt c a = false
  | [], _, [], _, _ => rfl
  | [], [], _ :: _, _, _ => rfl
  | [], _ :: _, _ :: _, _, _ => rfl
  | _ :: _, [], _, h, _ => by cases h
  | _ :: _, _ :: _, [], _, h => by cases h
  | x :: r, y :: t, z :: u, h1, h2 => by
    rw [HT.lexLt_cons] at h1 h2 ⊢
    by_cases e1 : y = x
    · rw [if_pos e1] at h1
      by_cases e2 : z = y
      · rw [if_pos e2] at h2
        rw [if_pos (e2.trans e1)]
        exact lex_trans r t u h1 h2
      · rw [if_neg e2] at h2
        have := of_decide_eq_false h2
        rw [if_neg (by omega)]
        exact decide_eq_false (by omega)
    · rw [if_neg e1] at h1
      have a1 := of_decide_eq_false h1
      by_cases e2 : z = y
      · rw [if_neg (by omega)]
        exact decide_eq_false (by omega)
      · rw [if_neg e2] at h2
        have := of_decide_eq_false h2
        rw [if_neg (by omega)]
        exact decide_eq_false (by omega)
theorem lex_anti : ∀ a b : List Int, HT.lexLt b a = false → HT.lexLt a b = false → a = b
  | [], [], _, _ => rfl
  | [], _ :: _, _, h => by cases h
  | _ :: _, [], h, _ => by cases h
  | x :: r, y :: t, h1, h2 => by
    rw [HT.lexLt_cons] at h1 h2
    by_cases e : x = y
    · rw [if_pos e.symm] at h1
      rw [if_pos e] at h2
      rw [e, lex_anti r t h1 h2]
    · rw [if_neg (fun q => e q.symm)] at h1
      rw [if_neg e] at h2
      have := of_decide_eq_false h1
      have := of_decide_eq_false h2
      omega
theorem swo_lexL (k : Value → List Int) : SrtO.Swo fun v u => HT.lexLt (k v) (k u) := ⟨fun x y h => lex_asym _ _ h, fun x y z h1 h2 => lex_trans _ _ _ h1 h2⟩
/-- a tuple of the ints ns -/
def TupI (h : Heap) (v : Value) (ns : List Int) : Prop := ∃ a its, v = .ref a ∧ IsTup h a its ∧ IntsAre its.toList ns
theorem TupI.keep {h h' : Heap} {v : Value} {ns : List Int} (t : TupI h v ns) (k : ∀ b o, h.get? b = some o → o.cls = .type "tuple" → h'.get? b = some o) : TupI h' v ns := by
  obtain ⟨a, its, e, ⟨o, ho, hc, hd⟩, hi⟩ := t
  exact ⟨a, its, e, ⟨o, k a o ho hc, hc, hd⟩, hi⟩
section
variable {prog : Program} {w : World} {A : Around} {s : Shared}
/-- the first items of tuples, where they have any -/
theorem firstsG {M : Model} {E : Value → Shared → Prop} : ∀ (vs : List Value) {Q : List (Option Value) → Shared → Prop}, (∀ v ∈ vs, ∃ ns, TupI s.heap v ns) → (∀ gs : List (Option Value), gs.length = vs.length → (∀ v r, vs = v :: r → TupI s.heap v [] → ∃ g, gs = none :: g) → Q gs s) → wpAny M A (vs.mapM firstOfTuple') Q E s
  | [], _, _, h => by
    rw [List.mapM_nil]
    exact wpAny_pure (h [] rfl fun v r e => by cases e)
  | v :: vs, Q, t, h => by
    obtain ⟨ns, a, its, rfl, ⟨o, ho, hc, n, hd⟩, hi⟩ := t v List.mem_cons_self
    rw [List.mapM_cons]
    refine wpAny_bind ?_
    rw [PySem.W.kas_first_eq]
    refine wpAny_bind (PySem.W.Looks.here (show PySem.W.Looks M s.heap (typeOf (.ref a)) o.cls from (PySem.W.Looks.ld ho).andThen .now) ?_)
    rw [hc, if_neg (by first | decide | simp)]
    refine wpAny_bind (listItems_at ho hd (wpAny_pure ?_))
    refine wpAny_bind (firstsG vs (fun v hv => t v (List.mem_cons_of_mem _ hv)) fun gs hl _ => ?_)
    refine wpAny_pure (h (its[0]? :: gs) (by simp [hl]) fun v r e te => ?_)
    cases e
    obtain ⟨a', its', e', ⟨o', ho', hc', n', hd'⟩, hi'⟩ := te
    cases e'
    rw [ho] at ho'
    cases ho'
    rw [hd] at hd'
    cases hd'
    have : its.toList = [] := by
      cases hq : its.toList with
      | nil => rfl
      | cons x y => rw [hq] at hi'; cases hi'
    have e0 : its[0]? = none := by
      rw [← Array.getElem?_toList, this]
      rfl
    exact ⟨gs, by rw [e0]⟩
theorem kindLots {E : Value → Shared → Prop} {Q : SortKind → Shared → Prop} {v0 : Value} {r : List Value} (h0 : TupI s.heap v0 []) (ht : ∀ v ∈ v0 :: r, ∃ ns, TupI s.heap v ns) (h : Q oneType' s) : wpAny (model prog w) A (keyKind' (v0 :: r).toArray) Q E s := by
  rw [PyProof.Rows.kat_kind_eq, List.mapM_toArray, map_eq_pure_bind]
  refine wpAny_bind (wpAny_bind (firstsG (v0 :: r) ht fun gs hl hg => ?_))
  obtain ⟨g, rfl⟩ := hg v0 r rfl h0
  refine wpAny_pure ?_
  have hall : ((none :: g).toArray.all fun x : Option Value => x.isSome) = false := by simp
  rw [hall, if_neg Bool.false_ne_true]
  have h1 : (((none :: g).toArray[0]?).bind id : Option Value).isSome = false := by simp
  rw [h1, if_neg Bool.false_ne_true, oneTypeOnly'_eq, List.mapM_toArray, map_eq_pure_bind]
  refine wpAny_bind (wpAny_bind (wpAny_bind (PySem.W.kas_mapM (r := Value.type "tuple") _ (fun v hv Q' hq => ?_) (wpAny_pure ?_))))
  · obtain ⟨ns, a, its, rfl, ⟨o, ho, hc, hd⟩, _⟩ := ht v hv
    refine (show PySem.W.Looks (model prog w) s.heap (typeOf (.ref a)) o.cls from (PySem.W.Looks.ld ho).andThen .now).here ?_
    rw [hc]
    exact hq
  · have hall2 : ((List.map (fun _ => Value.type "tuple") (v0 :: r)).toArray.all fun x => x == Value.type "tuple") = true := by
      simp only [List.all_toArray, List.all_map, List.all_eq_true]
      intro _ _
      rfl
    have h00 : (List.map (fun _ => Value.type "tuple") (v0 :: r)).toArray[0]? = some (Value.type "tuple") := by simp
    rw [h00]
    simp only [hall2, if_true]
    exact wpAny_pure (wpAny_pure h)
theorem cmpLots {vs : List Value} {k : Value → List Int} (hu : A.units < cLine) (hp : ∀ v ∈ vs, TupI s.heap v (k v)) : SrtO.Cmp prog w A s oneType' (fun p => p.1 ∈ vs) (SrtO.lt2 fun v u => HT.lexLt (k v) (k u)) := by
  intro p q hm hm'
  obtain ⟨a, its, e, t1, i1⟩ := hp _ hm
  obtain ⟨b, its2, e2, t2, i2⟩ := hp _ hm'
  show wpAny (model prog w) A (keyLt' oneType' p.1 q.1) (fun r s' => s' = s ∧ r = HT.lexLt (k p.1) (k q.1)) (fun _ _ => False) s
  rw [keyLt'_oneType, oneLt'_eq, e, e2]
  rw [e] at i1
  rw [e2] at i2
  simp only [if_true]
  refine wpAny_bind (wpAny_cRoomFor hu ?_)
  obtain ⟨⟨cls, dd, data, sl⟩, ho, hc, n, hd⟩ := id t1
  obtain ⟨⟨cls2, dd2, data2, sl2⟩, ho2, hc2, n2, hd2⟩ := id t2
  simp only at hc hd hc2 hd2
  subst hc hd hc2 hd2
  refine wpAny_bind (wpAny_callSpecialIfBound?_slot (T := "tuple") ⟨_, ho, rfl⟩ PySem.F.slot_tuple_lt ?_)
  refine call_meets PySem.F.slot_tuple_lt ⟨_, ho, rfl⟩ PySem.F.entry_tuple_lt (PySem.F.args_tuple_lt_2 _ _) (HT.tuple_lt_ints a b its its2 n n2 dd dd2 sl sl2 _ _ i1 i2) ⟨ho, ho2, ?_⟩
  exact wpAny_truthy_bool ⟨rfl, rfl⟩
theorem sortedLots {l : Addr} {v0 : Value} {r : List Value} {k : Value → List Int} {E : Value → Shared → Prop} {Q : Value → Shared → Prop} (hu : A.units + 2 < cLine) (hl : s.heap.IsList l (v0 :: r).toArray) (hz : (v0 :: r).length ≤ sizeLine) (h0 : k v0 = []) (hp : ∀ v ∈ v0 :: r, TupI s.heap v (k v))
    (h : ∀ (h' : Heap) (d : Addr) (out : List Value), SrtO.Srtd (fun v u => HT.lexLt (k v) (k u)) out → out.Perm (v0 :: r) → (∀ b o, s.heap.get? b = some o → h'.get? b = some o) → s.heap.objs.size ≤ d → (∃ n, h'.get? d = some (seqObj "list" out.toArray n)) → Q (.ref d) { s with heap := h' }) :
    wpAny (model prog w) A (call (.builtin "sorted") [.ref l]) Q E s := by
  refine SrtO.sorted_ord (swo_lexL k) hl hz (fun h2 h₁ a ha kk => ?_) fun out hs hb => ?_
  · intro h' keep
    have ne : ∀ o, h₁.get? a = some o → o.cls ≠ .type "tuple" := fun o e => by
      rw [ha] at e
      cases e
      intro c
      exact absurd (Value.type.inj c) (by decide)
    have hp' : ∀ v ∈ v0 :: r, TupI h' v (k v) := fun v hm => (hp v hm).keep fun b o e c => keep b o (fun z => by subst z; exact ne o ((kk b o e).2) c) (kk b o e).2
    refine ⟨oneType', fun Q E hq => ?_, cmpLots (by show A.units + 1 + 1 < cLine; omega) hp'⟩
    refine kindLots (s := { s with heap := h' }) ?_ (fun v hv => ⟨_, hp' v hv⟩) hq
    have := hp' v0 List.mem_cons_self
    rw [h0] at this
    exact this
  · exact h _ _ out hs hb.perm (fun b o e => sortedAll_old e) (Nat.le_succ _) (sortedAll_at s.heap (v0 :: r) out.toArray)
end
/-! the rule: the items are references -/
def rSortLots (K : PySem.W.Frag) : List V → Hp → VK → Prop := fun vs H Q => ∃ (l a0 : Addr) (as : List Addr) (f : Addr → List Int), vs = [.ref l] ∧ SqL K H l ((a0 :: as).map V.ref) ∧ f a0 = [] ∧ (∀ a ∈ a0 :: as, SqT K H a ((f a).map V.int)) ∧
  ∀ (out : List Addr) (p : Addr), out.Perm (a0 :: as) → out.Pairwise (fun a b => HT.lexLt (f b) (f a) = false) → H p = none → Q (.ref p) (upd H p (.lst (out.map V.ref)))
def refOf : Value → Addr
  | .ref a => a
  | _ => 0
theorem vals_refs {as : List Addr} : ∀ {us : List Value}, Vals (as.map V.ref) us → us = as.map Value.ref := by
  induction as with
  | nil => intro us h; cases h; rfl
  | cons a r ih =>
    intro us h
    cases h with
    | cons h1 h2 => rw [ih h2, show _ = Value.ref a from h1]; rfl
theorem refs_vals : ∀ as : List Addr, Vals (as.map V.ref) (as.map Value.ref)
  | [] => .nil
  | a :: r => .cons rfl (refs_vals r)
theorem cr_sortedLots {X : Cx} (hu : X.A.units + 2 < cLine) : CallR X (.builtin "sorted") (rSortLots X.K) := by
  intro pins s σ H vs us Q I r h
  obtain ⟨l, a0, as, f, rfl, hs, h0, hf, q⟩ := h
  obtain ⟨its, rv, hl, hz⟩ := I.list hs
  obtain ⟨u, rfl, ru⟩ := vals1 r
  obtain rfl : u = Value.ref l := ru
  obtain rfl := vals_refs rv
  refine sortedLots (k := fun v => f (refOf v)) (v0 := .ref a0) (r := as.map Value.ref) hu hl.isList (by show ((a0 :: as).map Value.ref).length ≤ _; rw [← rv.length]; exact hz) h0 (fun v hv => ?_) fun h' d out h1 h2 kp hd hn => ?_
  · obtain ⟨a, ha, rfl⟩ := List.mem_map.mp (show v ∈ (a0 :: as).map Value.ref from hv)
    obtain ⟨its2, r2, p2, _⟩ := I.tuple (hf a ha)
    exact ⟨a, its2.toArray, rfl, p2, intsAre_of r2⟩
  · obtain ⟨n, hn⟩ := hn
    have eo : out = (out.map refOf).map Value.ref := by
      rw [List.map_map]
      conv => lhs; rw [← List.map_id out]
      refine List.map_congr_left fun v hv => ?_
      obtain ⟨a, _, rfl⟩ := List.mem_map.mp (show v ∈ (a0 :: as).map Value.ref from h2.mem_iff.mp hv)
      rfl
    have pm : (out.map refOf).Perm (a0 :: as) := by
      have := h2.map refOf
      have e2 : ((Value.ref a0 :: as.map Value.ref).map refOf) = a0 :: as := by
        show a0 :: (as.map Value.ref).map refOf = _
        rw [List.map_map]
        have : (refOf ∘ Value.ref) = (id : Addr → Addr) := rfl
        rw [this, List.map_id]
      rw [e2] at this
      exact this
    refine ⟨.ref d, upd H d (.lst ((out.map refOf).map V.ref)), I.laid (t' := s.toks) kp hd ⟨?_, (out.map refOf).map Value.ref, n, refs_vals _, by rw [← eo]; exact hn⟩, rfl, q _ d pm (List.pairwise_map.mpr h1) (I.hok.fresh hd)⟩
    rw [List.length_map, pm.length_eq]
    rw [List.length_map] at hz
    exact hz
end Ox
namespace Ox
open PySem PySem.Spec PyProof.Rows L2
theorem hu2 {A : Around} {k : Nat} (r : Room k A) : A.units + 2 < cLine := by have := r.un; omega
theorem op_catAK {X : Cx} {K : PySem.W.Frag} (e : X.K = K := by rfl) : OpR X (binaryOp .Add) (rCatA K) := e ▸ op_catA
theorem x_catA {K : PySem.W.Frag} {H : Hp} {Q : VK} {a b : Addr} {xs ys : List V} (ha : SqT K H a xs) (hb : H b = some (.tup ys)) (hy : ys ≠ []) (hl : xs.length + ys.length ≤ 10000) (q : ∀ p H', L2.Same H H' → H' p = some (.tup (xs ++ ys)) → Q (.ref p) H') : rCatA K (.ref a) (.ref b) H Q :=
  ⟨a, b, xs, ys, rfl, rfl, ha, SqT.of hb, sz_le hl, fun e => q b H (fun _ _ h => h) (by rw [e]; exact hb), fun _ e => absurd e hy, fun _ _ p hp => q p _ (same_new hp) upd_same⟩
end Ox

/-! Own layer: the law's own def, walked where it is called (so that no repr is under way there), and repr of nested data. -/
namespace Ox
open PySem PySem.Spec PyProof.Rows L2
section
variable {P : Program} {w : World} {K : PySem.W.Frag} {mg : Str → Option Value} {base : Heap}
/-- a law's promise: as FnOk, for the law's caller alone -/
structure FnL (P : Program) (w : World) (K : PySem.W.Frag) (mg : Str → Option Value) (base : Heap) (f : Addr) (fd : FuncData) (ps : List Str) (sp : Sp) : Prop where
  len : ∀ vs H Q E, sp vs H Q E → vs.length = ps.length
  run : ∀ (s : Shared) (H : Hp) (args : Args) (us : List Value) (vs : List V) (Q : VK), Env0 P w K mg base callerA [] s H → BindsTo s fd args (ps.zip us) → Vals vs us → sp vs H Q E0 →
    codeAny (model P w) callerA (.call (.ref f) args) (CR CX0 [] P w H s Q E0) s
/-- the body's context where the law's caller calls -/
abbrev cxL (P : Program) (w : World) (K : PySem.W.Frag) (mg : Str → Option Value) (base : Heap) (N : List Str) (qual : Str) (sc : Scope) (f : Addr) (cdv : Value) (s : Shared) (H : Hp) : Cx := cxOf CX0 P w K mg base N qual sc f cdv callerA [] s H E0
theorem Fun.okL {x qual : Str} {st : Stmt} {f : Addr} {fd : FuncData} {N ps : List Str} {k : Nat} {sp : Sp} (hr : Room (k + 1) callerA) (F : Fun K x qual st f fd) (S : FnScope N ps (defScope st)) (len : ∀ vs H Q E, sp vs H Q E → vs.length = ps.length)
    (body : ∀ (cdv : Value) (s : Shared) (H : Hp) (vs : List V) (Q : VK), Room k (callerA.deeper (envOfC qual (defScope st) s.heap.objs.size f cdv)) → sp vs H Q E0 →
      ∃ t, PSs (cxL P w K mg base N qual (defScope st) f cdv s H).nox (defBody st) t ∧ t { nx := fun _ H' => Q .non H', rt := Q } (start N vs) H) : FnL P w K mg base f fd ps sp := by
  obtain ⟨oc, od, kV, doc, pm, an, cdv, ct, osl, rfl, lk, hcd⟩ := F.ex
  refine ⟨len, ?_⟩
  intro s H args us vs Q e0 hb r hsp
  have old : ∀ b o, base.get? b = some o → s.heap.get? b = some o := fun b o e => (e0.bs b o e).1
  have par : ∀ y ∈ ps.zip us, (defScope st).names.lookup y.1 = some .local ∨ ((defScope st).names.lookup y.1 = some .cell ∧ ((cellsFrom (s.heap.objs.size + 1) (defScope st).names []).lookup y.1).isSome = true) := by
    rintro ⟨n, v⟩ hy
    exact (S.par n (List.of_mem_zip hy).1).imp id fun q => ⟨q, PySem.W.cellsFrom_some _ _ _ (.inl q)⟩
  refine codeAny_call_function hr.depth (e0.mod.kin.keeps old _ _ lk) rfl S.co S.gen rfl (PySem.W.codeRec_of (e0.mod.kin.keeps old) hcd) (hb _ _ _ _ (wpAny_newFunctionEnv_cells S.kind par ?_))
  rintro env rfl s1 x
  obtain ⟨t, ht, hq⟩ := body cdv s H vs Q (hr.deeper _) hsp
  refine ⟨(e0.mod.nolimit.keeps old).keeps x.toInCall.keep, codeAny_func ?_⟩
  have J : Inv (cxL P w K mg base N qual (defScope st) f cdv s H) [] (start N vs) H s1 := inv_start S rfl e0 (len _ _ _ _ hsp) r x
  refine wpAny_mono (ht.nox.run [] s1 _ H _ J hq) (fun fl s' z => ?_) fun _ _ z => z
  cases fl with
  | ret u =>
    obtain ⟨v, σ', H', I', rv, q⟩ := z
    exact ⟨v, H', I'.os, I'.bare, I'.base, I'.hok, rv, q⟩
  | next =>
    obtain ⟨σ', H', I', q⟩ := z
    exact ⟨V.non, H', I'.os, I'.bare, I'.base, I'.hok, rfl, q⟩
  | brk =>
    obtain ⟨_, _, _, q⟩ := z
    exact q.elim
  | cont =>
    obtain ⟨_, _, _, q⟩ := z
    exact q.elim
end
/-- where the law is called: H tracks the script at a, or nothing -/
theorem envL {P : Program} {w : World} {K : PySem.W.Frag} {mg mb : Str → Option Value} {s : Shared} {H : Hp} {a : Addr} {vs : List Value}
    (KX : K.In s.heap) (g : s.heap.Ns mainGlobals mg) (b : s.heap.Ns builtinsNs mb) (bb : ∀ x : Str, x ≠ "__name__" → mb x = bootBuiltins x) (lim : s.heap.NoLimit) (hg : s.gens = #[])
    (ha : s.heap.get? a = some { cls := .type "list", data := .seq vs.toArray }) (hA : ∀ c, c ≠ a → H c = none) (hK : H a = none ∨ K.lookup a = none) (hok : HOk P w H s.heap) :
    Env0 P w K mg (hidT s.heap H) callerA [] s H ∧ K.In (hidT s.heap H) ∧ (hidT s.heap H).Ns mainGlobals mg := by
  have nsOf : ∀ {c : Addr} {m : Str → Option Value}, s.heap.Ns c m → (hidT s.heap H).Ns c m := by
    rintro c m ⟨o, es, ep, e, d, r⟩
    refine ⟨o, es, ep, hidT_get e (hA c ?_), d, r⟩
    rintro rfl
    rw [ha] at e
    cases e
    cases d
  have inK : K.In (hidT s.heap H) := by
    intro c o e
    refine hidT_get (KX c o e) ?_
    by_cases hc : c = a
    · subst hc
      rcases hK with z | z
      · exact z
      · rw [z] at e; cases e
    · exact hA c hc
  obtain ⟨mc, l1, l2⟩ := lim
  exact ⟨⟨rfl, ⟨inK, nsOf g, ⟨mb, nsOf b, bb⟩, ⟨mc, nsOf l1, l2⟩⟩, fun c o e => of_hidT e, Nat.le_of_eq (hidT_size _ _), trivial, fun c hc => absurd (show c ∈ ([] : List Addr) from hc) (by simp), hok, .of_eq hg⟩, inK, nsOf g⟩
theorem endL {P : Program} {w : World} {s : Shared} {H : Hp} {r : Result} {s' : Shared} (hok : HOk P w H s.heap) (hO : Only H) (h : CR CX0 [] P w H s (fun v _ => v = .bl true) E0 r s') :
    r = .ok (.ret (.bool true)) ∧ OldK s.heap s'.heap ∧ s'.os = s.os ∧ AllBare s'.gens := by
  cases r with
  | error e => exact False.elim h
  | ok fl =>
    cases fl with
    | ret u =>
      obtain ⟨v, H', os, bare, un, hok', rv, q⟩ := h
      obtain rfl : v = V.bl true := q
      obtain rfl : u = Value.bool true := rv
      refine ⟨rfl, OldK.of_keep ?_, os, bare⟩
      intro b o e
      have nil : b ∉ frs ([] : List Env) := fun z => absurd (show b ∈ ([] : List Addr) from z) (by simp)
      rcases hO b with n | ⟨ob, xs, t⟩
      · exact un.keep b o e n nil (by simp)
      · have t1 : s.heap.get? b = some ob := (hok b _ t).1
        have t2 : s'.heap.get? b = some ob := (hok' b _ (un.frzs b ob _ t)).1
        rw [t1] at e
        rw [t2, Option.some.inj e]
    | next => exact False.elim h
    | brk => exact False.elim h
    | cont => exact False.elim h
/-- the law's end over a head by facts -/
theorem walk_ofL {l : PySem.W.OpenLaw} {n : Nat} {q : Program} {loose : List Str} {XP : (Str → Option Value) → Heap → Prop} {YP : World → Heap → Prop} {d : DefRec} {x : Str}
    (hn : l.most = some n) (hn2 : n ≤ sizeLine) (hdf : d.params.defaults = [])
    (F : ∀ (w : World) (mg : Str → Option Value) (fa : Addr) (h : Heap), YP w h → h.Ns mainGlobals mg → mg d.name = some (.ref fa) →
      ∃ (K : PySem.W.Frag) (fd : FuncData) (sp : Sp), K.In h ∧ (∀ (s : Shared) (u : Value), BindsTo s fd ⟨[u], []⟩ [(x, u)]) ∧
        (∀ (H : Hp) (a : Addr) (ns : List Int), ns.length ≤ n → Only H → SqL K H a (ns.map V.int) → sp [.ref a] H (fun v _ => v = .bl true) fun _ _ _ => False) ∧
        ∀ base : Heap, K.In base → base.Ns mainGlobals mg → FnL l.prog w K mg base fa fd [x] sp) :
    PySem.W.WalkO q loose XP YP l.row.toRowW d [] (fun f vs => PySem.call f vs) := by
  refine Att.attach_call hn hdf ?_
  intro w s₀ s₁ mg mb fa o pm cd doc a vs ns G Y ho hd hcd hmg hobj hints hlen hg
  obtain ⟨K, fd, sp, KX, hb, hsp, hF⟩ := F w mg fa _ Y G.T.g hmg
  have rv := vals_ints hints
  have lv := hints.length
  have go : ∀ H : Hp, Only H → (∀ c, c ≠ a → H c = none) → (H a = none ∨ K.lookup a = none) → HOk l.prog w H s₁.heap → SqL K H a (ns.map V.int) →
      codeAny (model l.prog w) callerA (.call (.ref fa) ⟨[.ref a], []⟩) (fun r s' => r = .ok (.ret (.bool true)) ∧ OldK s₁.heap s'.heap ∧ s'.os = s₁.os ∧ AllBare s'.gens) s₁ := by
    intro H hO hA hK hok hS
    obtain ⟨e0, k1, k2⟩ := envL KX G.T.g G.T.b G.T.builtins G.T.nolimit hg hobj hA hK hok
    exact codeAny_mono ((hF _ k1 k2).run s₁ H _ [.ref a] [.ref a] _ e0 (hb s₁ (.ref a)) (.cons rfl .nil) (hsp H a ns hlen hO hS)) fun r s' z => endL hok hO z
  by_cases hk : K.lookup a = none
  · refine go (upd (fun _ => none) a (.frz { cls := .type "list", data := .seq vs.toArray } (.lst (ns.map V.int)))) (fun b => ?_) (fun c hc => upd_ne hc) (.inr hk) (fun b u z => ?_) (.inl (.inr ⟨_, upd_same⟩))
    · by_cases hb : b = a
      · exact .inr ⟨_, _, by rw [hb]; exact upd_same⟩
      · exact .inl (upd_ne hb)
    · by_cases hb : b = a
      · subst hb
        rw [upd_same] at z
        cases z
        exact ⟨hobj, by rw [List.length_map]; omega, vs, _, rv, hobj⟩
      · rw [upd_ne hb] at z
        cases z
  · obtain ⟨o', hk'⟩ := Option.ne_none_iff_exists'.mp hk
    have e := KX a o' hk'
    rw [hobj] at e
    cases e
    exact go (fun _ => none) (fun _ => .inl rfl) (fun _ _ => rfl) (.inl rfl) (fun _ _ z => by cases z) (.inr ⟨_, vs.toArray, _, hk', rfl, rfl, rfl, by rw [List.size_toArray]; omega, by simpa using rv⟩)
/-! ### repr of nested data -/
/-- a dict's key as data -/
def kD : Key → PyData
  | .inl i => .int i
  | .inr x => .str x
def zipK : List (Key × V) → List PyData → List (PyData × PyData)
  | (k, _) :: r, d :: ds => (kD k, d) :: zipK r ds
  | _, _ => []
theorem zipK_keys : ∀ {kvs : List (Key × V)} {ds : List PyData}, ds.length = kvs.length → (zipK kvs ds).map (·.1) = kvs.map fun p => kD p.1
  | [], [], _ => rfl
  | (k, v) :: r, d :: ds, h => by
    show kD k :: (zipK r ds).map (·.1) = kD k :: r.map fun p => kD p.1
    rw [zipK_keys (by simpa using h)]
  | [], _ :: _, h => by simp at h
  | _ :: _, [], h => by simp at h
theorem zipK_vals : ∀ {kvs : List (Key × V)} {ds : List PyData}, ds.length = kvs.length → (zipK kvs ds).map (·.2) = ds
  | [], [], _ => rfl
  | (k, v) :: r, d :: ds, h => by
    show d :: (zipK r ds).map (·.2) = d :: ds
    rw [zipK_vals (by simpa using h)]
  | [], _ :: _, h => by simp at h
  | _ :: _, [], h => by simp at h
mutual
/-- what stands at v in H, as data -/
inductive Shw (H : Hp) : V → PyData → Prop
  | non : Shw H .non .none
  | bl (b : Bool) : Shw H (.bl b) (.bool b)
  | int (i : Int) : Shw H (.int i) (.int i)
  | str (x : Str) : Shw H (.str x) (.str x)
  | lst {a : Addr} {xs : List V} {ds : List PyData} : Rd H a (.lst xs) → ShwA H xs ds → Shw H (.ref a) (.list ds)
  | tup {a : Addr} {xs : List V} {ds : List PyData} : H a = some (.tup xs) → ShwA H xs ds → Shw H (.ref a) (.tuple ds)
  | dK {a : Addr} {kvs : List (Key × V)} {ds : List PyData} : Rd H a (.dK kvs) → ShwA H (kvs.map (·.2)) ds → Shw H (.ref a) (.dict (zipK kvs ds))
inductive ShwA (H : Hp) : List V → List PyData → Prop
  | nil : ShwA H [] []
  | cons {v : V} {d : PyData} {vs : List V} {ds : List PyData} : Shw H v d → ShwA H vs ds → ShwA H (v :: vs) (d :: ds)
end
theorem ShwA.len {H : Hp} : ∀ {vs : List V} {ds : List PyData}, ShwA H vs ds → ds.length = vs.length
  | _, _, .nil => rfl
  | _, _, .cons _ r => by simp [r.len]
theorem ReadsAll.app1 {h : Heap} : ∀ {us : List Value} {ds : List PyData}, (∀ p ∈ us.zip ds, Reads h p.1 p.2 []) → us.length = ds.length → ReadsAll h us ds []
  | [], [], _, _ => .nil
  | u :: us, d :: ds, k, l => ReadsAll.cons (as := []) (bs := []) (k (u, d) (by simp)) (app1 (fun p hp => k p (by simp [hp])) (by simpa using l))
  | [], _ :: _, _, l => by simp at l
  | _ :: _, [], _, l => by simp at l
theorem keysRead {P : Program} {w : World} {h : Heap} : ∀ {es : List DictEntry} {vs : List (Key × Value)}, Pairs (mixKind P w) es vs → ReadsAll h (es.map (·.key)) (vs.map fun p => kD p.1) [] ∧ es.map (·.val) = vs.map (·.2)
  | _, _, .nil => ⟨.nil, rfl⟩
  | _, _, .cons (e := e) (kv := kv) hk hv r => by
    obtain ⟨i1, i2⟩ := keysRead r
    refine ⟨ReadsAll.cons (as := []) (bs := []) ?_ i1, by rw [List.map_cons, List.map_cons, i2, hv]⟩
    obtain ⟨k, v⟩ := kv
    rcases keyIs_shape hk with ⟨i, t, e1, e2⟩ | ⟨x, t, e1, e2⟩
    · have e1' : k = Sum.inl i := e1
      subst e1'
      show Reads h e.key _ []
      rw [e2]
      exact Reads.int i t
    · have e1' : k = Sum.inr x := e1
      subst e1'
      show Reads h e.key _ []
      rw [e2]
      exact Reads.str x t
theorem kv_keys : ∀ {kvs : List (Key × V)} {vs : List (Key × Value)}, KV kvs vs → vs.map (fun p => kD p.1) = kvs.map (fun p => kD p.1) ∧ Vals (kvs.map (·.2)) (vs.map (·.2))
  | _, _, .nil => ⟨rfl, .nil⟩
  | _, _, .cons r t => by
    obtain ⟨i1, i2⟩ := kv_keys t
    exact ⟨by rw [List.map_cons, List.map_cons, i1, r.1], .cons r.2 i2⟩
mutual
theorem Shw.reads {P : Program} {w : World} {H : Hp} {h : Heap} (ok : HOk P w H h) : ∀ {v : V} {d : PyData}, Shw H v d → ∀ {u : Value}, RelV v u → ∃ as, Reads h u d as ∧ ∀ b ∈ as, H b ≠ none
  | _, _, .non, u, r => by
    obtain rfl : u = Value.none := r
    exact ⟨[], .none, fun b hb => by cases hb⟩
  | _, _, .bl b, u, r => by
    obtain rfl : u = Value.bool b := r
    exact ⟨[], .bool b, fun b hb => by cases hb⟩
  | _, _, .int i, u, r => by
    obtain ⟨t, rfl⟩ := r
    exact ⟨[], .int i t, fun b hb => by cases hb⟩
  | _, _, .str x, u, r => by
    obtain ⟨t, rfl⟩ := r
    exact ⟨[], .str x t, fun b hb => by cases hb⟩
  | _, _, .lst (a := a) (xs := xs) ha hs, u, r => by
    obtain rfl : u = Value.ref a := r
    obtain ⟨_, its, n, rv, hg⟩ := ha.ok ok
    obtain ⟨as, hr, hn⟩ := ShwA.reads ok hs rv
    refine ⟨a :: as, .list hg rfl rfl hr, fun b hb => ?_⟩
    rcases List.mem_cons.mp hb with rfl | hb
    · rcases ha with z | ⟨o, z⟩ <;> rw [z] <;> simp
    · exact hn b hb
  | _, _, .tup (a := a) ha hs, u, r => by
    obtain rfl : u = Value.ref a := r
    obtain ⟨_, its, rv, o, hg, hc, n, hd⟩ := ok a _ ha
    obtain ⟨as, hr, hn⟩ := ShwA.reads ok hs rv
    exact ⟨as, .tuple hg hc hd hr, hn⟩
  | _, _, .dK (a := a) (kvs := kvs) ha hs, u, r => by
    obtain rfl : u = Value.ref a := r
    obtain ⟨_, _, vs, rel, o, es, ep, hg, hx, hd, _, hp, _⟩ := ha.ok ok
    obtain ⟨k1, k2⟩ := keysRead (h := h) hp
    obtain ⟨k3, k4⟩ := kv_keys rel
    obtain ⟨as, hr, hn⟩ := ShwA.reads ok hs k4
    refine ⟨a :: [] ++ as, .dict hg hx.1 hd ?_ ?_, fun b hb => ?_⟩
    · rw [zipK_keys (by rw [hs.len, List.length_map]), ← k3]
      exact k1
    · rw [zipK_vals (by rw [hs.len, List.length_map]), k2]
      exact hr
    · rcases List.mem_cons.mp hb with rfl | hb
      · rcases ha with z | ⟨o, z⟩ <;> rw [z] <;> simp
      · exact hn b hb
theorem ShwA.reads {P : Program} {w : World} {H : Hp} {h : Heap} (ok : HOk P w H h) : ∀ {vs : List V} {ds : List PyData}, ShwA H vs ds → ∀ {us : List Value}, Vals vs us → ∃ as, ReadsAll h us ds as ∧ ∀ b ∈ as, H b ≠ none
  | _, _, .nil, us, r => by
    cases r
    exact ⟨[], .nil, fun b hb => by cases hb⟩
  | _, _, .cons hv hs, us, r => by
    cases r with
    | cons r1 r2 =>
      obtain ⟨as, h1, n1⟩ := Shw.reads ok hv r1
      obtain ⟨bs, h2, n2⟩ := ShwA.reads ok hs r2
      exact ⟨as ++ bs, .cons h1 h2, fun b hb => (List.mem_append.mp hb).elim (n1 b) (n2 b)⟩
end
theorem rd_same {H H' : Hp} {a : Addr} {u : HO} (s : L2.Same H H') (h : Rd H a u) : Rd H' a u := h.imp (s _ _) fun ⟨o, h⟩ => ⟨o, s _ _ h⟩
mutual
theorem Shw.same {H H' : Hp} (s : L2.Same H H') : ∀ {v : V} {d : PyData}, Shw H v d → Shw H' v d
  | _, _, .non => .non
  | _, _, .bl b => .bl b
  | _, _, .int i => .int i
  | _, _, .str x => .str x
  | _, _, .lst h hs => .lst (rd_same s h) (ShwA.same s hs)
  | _, _, .tup h hs => .tup (s _ _ h) (ShwA.same s hs)
  | _, _, .dK h hs => .dK (rd_same s h) (ShwA.same s hs)
theorem ShwA.same {H H' : Hp} (s : L2.Same H H') : ∀ {vs : List V} {ds : List PyData}, ShwA H vs ds → ShwA H' vs ds
  | _, _, .nil => .nil
  | _, _, .cons h hs => .cons (Shw.same s h) (ShwA.same s hs)
end
theorem vals_of1 {x : V} {us : List Value} (r : Vals [x] us) : ∃ u, us = [u] ∧ RelV x u := vals1 r
/-- repr(x) -/
def rRepr : List V → Hp → VK → Prop := fun xs H Q => ∃ (v : V) (d : PyData), xs = [v] ∧ Shw H v d ∧ d.showable = true ∧ d.depth ≤ 64 ∧ d.shown.length ≤ sizeLine ∧ Q (.str d.shown) H
theorem call_repr {X : Cx} (hg : X.A.guards = some []) (hu : X.A.units + 100 < cLine) (hm : (X.K.lookup sysModules).isSome = true) : CallR X (.builtin "repr") rRepr := by
  intro pins s σ H xs us Q I r h
  obtain ⟨v, d, rfl, sh, hs, hd, hz, q⟩ := h
  obtain ⟨u, rfl, ru⟩ := vals1 r
  have deep : ∀ a, v = .ref a → wpAny (model X.prog X.w) X.A (call (.builtin "repr") [u]) (EP X pins σ Q) X.xe s := by
    rintro a rfl
    obtain rfl : u = Value.ref a := ru
    obtain ⟨as, hr, hn⟩ := sh.reads I.hok rfl
    obtain ⟨o, ho⟩ := Option.isSome_iff_exists.mp hm
    have nm : sysModules ∉ as := fun z => hn _ z (I.bs _ _ (I.mod.kin _ _ ho)).2
    exact repr_of_reads' hr hs (fun _ => nm) hg (by omega) (fun _ _ e => e) (fun h' u tk k => ⟨.str _, H, I.kept k, ⟨_, rfl⟩, q⟩) hz
  cases sh with
  | non =>
    obtain rfl : u = Value.none := ru
    exact PySem.P.repr_of_none ⟨.str _, H, I.tok _, ⟨_, rfl⟩, q⟩
  | bl b =>
    obtain rfl : u = Value.bool b := ru
    exact PySem.P.repr_of_bool ⟨.str _, H, I.tok _, ⟨_, rfl⟩, q⟩
  | int i =>
    obtain ⟨t, rfl⟩ := ru
    exact PySem.P.repr_of_int (of_decide_eq_true hs) ⟨.str _, H, I.tok _, ⟨_, rfl⟩, q⟩
  | str x =>
    obtain ⟨t, rfl⟩ := ru
    exact PySem.P.repr_of_str ⟨.str _, H, I.tok _, ⟨_, rfl⟩, q⟩ hz
  | lst _ _ => exact deep _ rfl
  | tup _ _ => exact deep _ rfl
  | dK _ _ => exact deep _ rfl
/-- small data -/
structure Sm (B : Nat) (d : PyData) : Prop where
  sh : d.showable = true
  dp : d.depth ≤ 5
  ln : d.shown.length ≤ B
theorem Sm.mono {B C : Nat} {d : PyData} (h : Sm B d) (hb : B ≤ C) : Sm C d := ⟨h.sh, h.dp, Nat.le_trans h.ln hb⟩
/-- a list's or tuple's own data out of its items' -/
theorem items_of {H : Hp} {B : Nat} : ∀ {xs : List V}, (∀ y ∈ xs, ∃ d, Shw H y d ∧ d.showable = true ∧ d.depth ≤ 4 ∧ d.shown.length ≤ B) → ∃ ds, ShwA H xs ds ∧ PyData.showableAll ds = true ∧ PyData.depthAll ds ≤ 4 ∧ ((PyData.shownAll ds).map (·.length)).sum ≤ xs.length * B ∧ (PyData.shownAll ds).length = xs.length
  | [], _ => ⟨[], .nil, rfl, Nat.zero_le _, Nat.zero_le _, rfl⟩
  | y :: r, h => by
    obtain ⟨d, h1, h2, h3, h4⟩ := h y List.mem_cons_self
    obtain ⟨ds, g1, g2, g3, g4, g5⟩ := items_of fun z hz => h z (List.mem_cons_of_mem _ hz)
    refine ⟨d :: ds, .cons h1 g1, ?_, ?_, ?_, ?_⟩
    · show (d.showable && PyData.showableAll ds) = true
      rw [h2, g2]; rfl
    · show max d.depth (PyData.depthAll ds) ≤ 4
      omega
    · show ((d.shown :: PyData.shownAll ds).map (·.length)).sum ≤ (r.length + 1) * B
      rw [List.map_cons, List.sum_cons, Nat.succ_mul]
      omega
    · show (d.shown :: PyData.shownAll ds).length = _
      rw [List.length_cons, List.length_cons, g5]
theorem row_shw {H : Hp} {B : Nat} {a : Addr} {xs : List V} (ha : Rd H a (.lst xs) ∨ H a = some (.tup xs)) (h : ∀ y ∈ xs, ∃ d, Shw H y d ∧ d.showable = true ∧ d.depth ≤ 4 ∧ d.shown.length ≤ B) : ∃ d, Shw H (.ref a) d ∧ Sm (xs.length * (B + 2) + 3) d := by
  obtain ⟨ds, g1, g2, g3, g4, g5⟩ := items_of h
  have key : ((PyData.shownAll ds).map (·.length)).sum + 2 * (PyData.shownAll ds).length + 3 ≤ xs.length * (B + 2) + 3 := by
    rw [g5, Nat.mul_add]
    omega
  rcases ha with ha | ha
  · exact ⟨_, .lst ha g1, g2, by show PyData.depthAll ds + 1 ≤ 5; omega, Nat.le_trans (listText_len_le _) key⟩
  · exact ⟨_, .tup ha g1, g2, by show PyData.depthAll ds + 1 ≤ 5; omega, Nat.le_trans (tupleText_len_le _) key⟩
end Ox

/-! Own layer: defs that raise, own exceptions without __init__, try .. except X as e. -/
namespace Ox
open PySem PySem.Spec PyProof.Rows L2
/-- the module's name x is an own exception class at C, under ValueError, without own __init__ -/
structure Exc0 (K : PySem.W.Frag) (mg : Str → Option Value) (x : Str) (C : Addr) : Prop where
  gC : mg x = some (.ref C)
  xC : PySem.W.excIn K C veB "ValueError.__new__" = true
  kC : PySem.W.keepIn K (.ref C) = true
  bC : PySem.W.subIn K (.ref C) (.type "BaseException") = some true
  tC : PySem.W.typeIn K (.ref C) = some (.type "type")
theorem exc0F_ok {x : Str} {K : PySem.W.Frag} {mg : Str → Option Value} (g : mg x = some (.ref (He.ga K x))) (h : exc0F x K = true) : Exc0 K mg x (He.ga K x) := by
  obtain ⟨h1, h⟩ := Bool.and_eq_true_iff.mp h
  obtain ⟨h2, h⟩ := Bool.and_eq_true_iff.mp h
  obtain ⟨h3, h4⟩ := Bool.and_eq_true_iff.mp h
  exact ⟨g, h1, h2, of_decide_eq_true h3, of_decide_eq_true h4⟩
theorem excCF_ok {x : Str} {K : PySem.W.Frag} (h : excCF x K = true) : ExcC K (He.ga K x) := by
  obtain ⟨h1, h⟩ := Bool.and_eq_true_iff.mp h
  obtain ⟨h2, h⟩ := Bool.and_eq_true_iff.mp h
  obtain ⟨h3, h⟩ := Bool.and_eq_true_iff.mp h
  obtain ⟨h4, h5⟩ := Bool.and_eq_true_iff.mp h
  have t := xfB_ok h1
  exact ⟨t.ga, t.gg, t.exC, t.hdC, He.eqO_ok h2, He.eqO_ok h3, of_decide_eq_true h4, of_decide_eq_true h5⟩
theorem exmF_ok {C D : Str} {b : Bool} {K : PySem.W.Frag} (h : exmF C D b K = true) : PySem.W.exmOne K (.ref (He.ga K C)) (.ref (He.ga K D)) = some b := of_decide_eq_true h
theorem kitTF_ok {C : Str} {T : String} {b : Bool} {K : PySem.W.Frag} (h : kitTF C T b K = true) : PySem.W.kitOne K (.ref (He.ga K C)) (.type T) = some b := of_decide_eq_true h
/-! ### callees that may raise -/
section
variable (P : Program) (w : World) (K : PySem.W.Frag) (mg : Str → Option Value) (base : Heap)
structure CalX (k : Nat) (x : Str) (ps : List Str) (sp : Sp) : Prop where
  ex : ∃ f fd, FnOk P w K mg base (L2.CX P w) k f fd ps sp ∧ mg x = some (.ref f) ∧ PySem.W.keepIn K (.ref f) = true ∧ Binds K fd ps []
structure MetX (C : Addr) (k : Nat) (m : Str) (ps : List Str) (sp : Sp) : Prop where
  ex : ∃ f fd, Meth K C m f ∧ FnOk P w K mg base (L2.CX P w) k f fd ps sp ∧ Binds K fd ps []
end
/-- a wish that nothing is let out -/
def W0 : WX := fun _ _ _ _ => False
theorem takesN {X : Cx} : Takes X W0 := takes0
section
variable {X : Cx} {k : Nat} {x : Str} {ps : List Str} {sp : Sp} {e : Expr} {es : List Expr} {t : TA} {pos p : Pos} {W : WX}
theorem pe_calX (c : CalX X.prog X.w X.K X.mg X.base k x ps sp) (hr : Room k X.A) (hg : Gl X x) (tk : Takes X W) (ha : PA X (e :: es) t)
    (hs : starEach (e :: es) X.env = (false, eval e X.env) :: starEach es X.env := by rfl) (hp : (backTo pos (starEach es X.env)).any (·.1) = false := by rfl)
    (hdb : (x == ("__debug__" : Str)) = false := by decide) : PE X (.Call (.Name x p) (e :: es) [] pos) (tCallS sp (WE W) t) := by
  obtain ⟨f, fd, F, g, kp, b⟩ := c.ex
  exact pe_callS F hr hg g kp b (fun σ => passAt tk σ) ha hdb hs hp
/-- X() -/
theorem pmk_own0 {C : Addr} (c : Exc0 X.K X.mg x C) (hg : Gl X x) (hdb : (x == ("__debug__" : Str)) = false := by decide) :
    PMk X (.Call (.Name x p) [] [] pos) (fun _ H Q => Q (.ref C) none H) := by
  intro pins s σ H Q I h
  refine wpAny_Call_Name_kw (ld_glob I hg c.gC ?_ hdb)
  refine PySem.W.callWith_K0 I.kIn c.kC ?_
  show wpAny _ _ (call (.ref C) []) _ _ _
  obtain ⟨bm, N, nm, qn, bs, hdct, sn, sub, ab, col, dd, k0, k1, k2, k3, k5, mN, hC, hN, hni, T⟩ := exc_obj I.kIn c.xC
  refine wpAny_call_exc_subT PySem.F.excBase_ValueError T hC hN hni (fun h' e hm => ?_) (Nat.zero_le _)
  exact mk_of I hm (raises_own c.bC c.tC) h (I.hok.gone hm.new)
/-- raise X() -/
def tRaise0 (C : Addr) (W : WX) : TS := fun _ σ H => W (.ref C) none σ H
theorem ps_raise0 {C : Addr} {pos2 : Pos} (hc : X.calm = true) (tk : Takes X W) (c : Exc0 X.K X.mg x C) (hg : Gl X x) (hdb : (x == ("__debug__" : Str)) = false := by decide) :
    PS X (.Raise (some (.Call (.Name x p) [] [] pos)) none pos2) (tRaise0 C W) := ps_raise hc tk (pmk_own0 c hg hdb)
/-- the same reading in another word -/
theorem psEq {b : List Stmt} {u v : TS} (h : PSs X b u) (e : v = u := by rfl) : PSs X b v := by
  rw [e]
  exact h
end
section
variable {σ : L2.St} {H : Hp} {Q : VK} {D : Ends} {W : WX} {sp : Sp} {E : L2.St → XK} {t : TA} {C : Addr} {K : PySem.W.Frag}
theorem x_callS (q : t σ H fun vs H1 => sp vs H1 Q (E σ)) : tCallS sp E t σ H Q := q
theorem x_raise0 (q : W (.ref C) none σ H) : tRaise0 C W D σ H := q
end
/-! ### try .. except X as n -/
/-- its reading -/
def tTry (K : PySem.W.Frag) (c : Value) (i : Nat) (tb : WX → TS) (ts : Addr → Value → Option Addr → TS) (Wout : WX) : TS := fun D σ H => tb (wAs K c i ts Wout D) D σ H
/-- the ends of a suite whose name goes -/
def sEnds (i : Nat) (D : Ends) : Ends := { nx := fun σ' H' => D.nx (σ'.set i none) H', rt := D.rt, bk := fun σ' H' => D.bk (σ'.set i none) H', ct := fun σ' H' => D.ct (σ'.set i none) H' }
section
variable {σ : L2.St} {H : Hp} {D : Ends} {K : PySem.W.Frag} {c cls : Value} {d : Option Addr} {i : Nat} {tb : WX → TS} {ts : Addr → Value → Option Addr → TS} {Wout : WX}
theorem x_try (q : tb (wAs K c i ts Wout D) D σ H) : tTry K c i tb ts Wout D σ H := q
/-- caught -/
theorem x_caught (e : PySem.W.exmOne K cls c = some true) (q : ∀ a, H a = none → ts a cls d (sEnds i D) (σ.set i (some (.ref a))) H) : wAs K c i ts Wout D cls d σ H :=
  ⟨true, e, fun _ a ha => q a ha, fun z => nomatch z⟩
theorem x_caughtE (e : PySem.W.exmOne K cls c = some true) (q : ∀ a, H a = none → ts a cls d (sEnds i D) (σ.set i (some (.ref a))) H) : WE (wAs K c i ts Wout D) σ cls d H := x_caught e q
end
section
variable {X : Cx} {x n : Str} {c : Value} {i : Nat} {body suite : List Stmt} {b₀ : Stmt} {np pos pos' : Pos} {tb : WX → TS} {ts : Addr → Value → Option Addr → TS} {Wout : WX}
theorem ps_tryAs (hN : X.N.Nodup) (hs : X.stack = X.env :: X.outer) (hf : X.env.frame = some X.env.locals) (hi : X.N[i]? = some n) (hln : X.env.kindOf n = some .local) (hg : Gl X x) (hm : X.mg x = some c) (tk : Takes X Wout)
    (hb : ∀ (W : WX) (pn : List (Addr × Obj)) (xe : Value → Shared → Prop), Takes (X.tr pn xe) W → PassesOwn (model X.prog X.w) X.A X.env xe → PSs (X.tr pn xe) body (tb W))
    (hsu : ∀ (a : Addr) (oe : Obj) (cls : Value) (d : Option Addr) (pn : List (Addr × Obj)), Zc cls d oe → (∃ vs, oe.data = .fields vs) → PSs (X.suite a ((a, oe) :: pn)) (b₀ :: suite) (ts a cls d)) (hdb : (x == ("__debug__" : Str)) = false := by decide) :
    PS X (.Try body [.ExceptHandler (some (.Name x np)) (some n) (b₀ :: suite) pos'] [] [] pos) (tTry X.K c i tb ts Wout) :=
  ps_try_as hs hf hN hi hln ⟨hg, hdb, .inl hm⟩ tk hb hsu
end
/-! ### isinstance(e, C), e the caught one -/
def rIsX (K : PySem.W.Frag) (a : Addr) (cls : Value) (d : Option Addr) : List V → Hp → VK → Prop := fun xs H Q => ∃ D, cls = .ref D ∧ d = none ∧ ExcC K D ∧ rIsE K D a xs H Q
theorem call_isX {X : Cx} {a : Addr} {cls : Value} {d : Option Addr} {oe : Obj} {pn : List (Addr × Obj)} (hz : Zc cls d oe) (hf : ∃ vs, oe.data = .fields vs) : CallR (X.suite a ((a, oe) :: pn)) (.builtin "isinstance") (rIsX X.K a cls d) := by
  intro pins s σ H xs us Q I r h
  obtain ⟨D, rfl, rfl, hC, h⟩ := h
  exact call_isE hC hz hf pins s σ H xs us Q I r h
section
variable {H : Hp} {Q : VK} {K : PySem.W.Frag} {a D C : Addr} {b : Bool}
theorem x_isX (hC : ExcC K D) (e : PySem.W.kitOne K (.ref D) (.ref C) = some b) (q : Q (.bl b) H) : rIsX K a (.ref D) none [.ref a, .ref C] H Q :=
  ⟨D, rfl, rfl, hC, _, _, _, rfl, fun u r => r, e, q⟩
theorem x_isXT {T : String} (hC : ExcC K D) (e : PySem.W.kitOne K (.ref D) (.type T) = some b) (q : Q (.bl b) H) : rIsX K a (.ref D) none [.ref a, .ty T] H Q :=
  ⟨D, rfl, rfl, hC, _, _, _, rfl, fun u r => r, e, q⟩
end
end Ox

/-! Own layer: own exceptions whose __init__ says super().__init__('..') and lays one field. -/
namespace PySem
namespace SupX
open PySem.W PySem.Calls PyProof.Rows PySem.HandSPX
def iA (y : Str) (p1 p2 : Pos) : Arguments := { posonlyargs := [], args := [{ arg := "self", annotation := none, pos := p1 }, { arg := y, annotation := none, pos := p2 }], vararg := none, kwonlyargs := [], kw_defaults := [], kwarg := none, defaults := [] }
def iB (y txt : Str) (q1 q2 q3 q4 q5 q6 q7 q8 q9 q10 : Pos) : List Stmt :=
  [.Expr (.Call (.Attribute (.Call (.Name "super" q1) [] [] q2) "__init__" q3) [.Constant (.str txt) 0 q4] [] q5) q6, .Assign [.Attribute (.Name "self" q7) y q8] (.Name y q9) q10]
def iS (y : Str) : Scope := { kind := .function, names := [(PySem.Str.ofString "self", .local), (y, .local), (PySem.Str.ofString "__class__", .free), (PySem.Str.ofString "super", .globalImplicit)], isGenerator := false, isCoroutine := false, more := [] }
/-- the fields that the text has -/
def Fld (y : Str) : Prop := y = "part" ∨ y = "name" ∨ y = "index" ∨ y = "most" ∨ y = "line"
structure SupTxt (P : Program) (K : Frag) (mg : Str → Option Value) (x y : Str) (C fI : Addr) : Prop where
  fld : Fld y
  gC : mg x = some (.ref C)
  noS : mg "super" = none
  cls : ∃ nm q N bs bm sn sub ab col dd k0 k1 k2 k3 k5, K.lookup C = some (excClassObj nm q C N bs bm true sn sub ab col dd k0 k1 k2 k3 k5 "ValueError.__new__") ∧ refsVE bm = true
  sa : findIn K (.ref C) "__setattr__" = some (some (.builtin "object.__setattr__"))
  ga : findIn K (.ref C) "__getattribute__" = some (some (.builtin "BaseException.__getattribute__"))
  gg : findIn K (.ref C) "__getattr__" = some none
  noN : findIn K (.ref C) y = some none
  iC : findIn K (.ref C) "__init__" = some (some (.ref fI))
  tC : typeIn K (.ref fI) = some (.type "function")
  kC : keepIn K (.ref C) = true
  exC : subIn K (.ref C) (.type "BaseException") = some true
  veC : subIn K (.ref C) (.type "ValueError") = some true
  mrC : mroIn K C (.ref C) = some true
  tyC : typeIn K (.ref C) = some (.type "type")
  hdC : hasDictIn K C = true
  opq : nsIn K cStatics "thirdparty.any" = some none
  sup : ks_superIn K C C "__init__" = some (some (.builtin "ValueError.__init__"))
  top : (P.main.scope.names.lookup ("super" : Str)).isSome = false
  fn : ∃ (oc : Value) (od : Option Addr) (kV doc pm : Value) (an : Option Addr) (cda : Addr) (ct : Value) (osl : Array (Option Value)) (qual txt : Str) (cc : Addr) (p1 p2 q1 q2 q3 q4 q5 q6 q7 q8 q9 q10 : Pos),
    K.lookup fI = some ⟨oc, od, .func (ksFn "__init__" qual (iA y p1 p2) (iB y txt q1 q2 q3 q4 q5 q6 q7 q8 q9 q10) (iS y) .none kV doc pm an (.ref cda) ct cc), osl⟩ ∧ codeIn K (.ref cda) qual = true ∧
    (∃ (ccl : Value) (cdd : Option Addr) (vs : Array Value) (ccs : Array (Option Value)) (file : Str) (tf : Tok), K.lookup cda = some ⟨ccl, cdd, .fields vs, ccs⟩ ∧ vs[2]? = some (.str file tf) ∧ ((P.main.file : Str) == file) = true) ∧
    (∃ (cl : Value) (cld : Option Addr) (csl : Array (Option Value)), K.lookup cc = some ⟨cl, cld, .cell (some (.ref C)), csl⟩) ∧ (q3.endLine == q5.line) = true
theorem one_size (v : Value) : [v].length ≤ sizeLine := by
  rw [sizeLine_eq]
  exact (by decide : 1 ≤ 16777216)
structure InitEnd (h h' : Heap) (x C dx t1 : Addr) (y : Str) (v : Value) : Prop where
  keep : ∀ b o, b ≠ x → h.get? b = some o → h'.get? b = some o
  obj : h'.get? x = some { cls := .ref C, dict := some dx, data := .fields #[.ref t1, .none, .none, .none, .bool false, .none] }
  dbig : h.objs.size ≤ dx
  dne : dx ≠ x
  ns : h'.Ns1 dx (fun z => if z = y then some v else none)
structure OwnMade (h h' : Heap) (e C d : Addr) (y : Str) (v : Value) : Prop where
  keep : ∀ b o, h.get? b = some o → h'.get? b = some o
  new : h.objs.size ≤ e
  obj : ∃ oe vs, h'.get? e = some oe ∧ oe.cls = .ref C ∧ oe.dict = some d ∧ oe.data = .fields vs ∧ vs[1]? = some .none
  dbig : h.objs.size ≤ d
  dne : d ≠ e
  ns : h'.Ns1 d (fun z => if z = y then some v else none)
theorem ld {M : Model} {A : Around} {E : Value → Shared → Prop} {s : Shared} {env : Env} {m : Str → Option Value} {x : Str} {pos : Pos} {v : Value} {Q : Value → Shared → Prop} (hn : s.heap.Ns env.locals m) (hv : m x = some v) (h : Q v s)
    (hk : env.scope.kind = .function := by rfl) (hl : env.kindOf x = some .local := by rfl) (hd : (x == ("__debug__" : Str)) = false := by decide) :
    wpAny M A (eval (.Name x pos) env) Q E s := wpAny_Name (wpAny_loadName_local hk hl hn hv h) hd
theorem call_eq {o a : Expr} {name : Str} {q3 q5 : Pos} {env : Env} (hline : (q3.endLine == q5.line) = true) (ha : starEach [a] env = [(false, eval a env)]) : eval (.Call (.Attribute o name q3) [a] [] q5) env = (do
      let ov ← attributeBase o name env (eval o env)
      standAt q3.atName
      let (f, first) ← holding [ov] (getMethod ov name (do return (← importBound o env).getD true))
      callWith q5 f first (backTo q5 (starEach [a] env)) []) := by
  show (do
    let ov ← attributeBase o name env (eval o env)
    standAt q3.atName
    methodCall o name q3 q5 env ov 1 (backTo q5 (starEach [a] env)) []) = _
  unfold methodCall methodCallPos calleeOf
  have hf : methodCallForm 1 (backTo q5 (starEach [a] env)) [] = true := by rw [ha]; rfl
  rw [hf, hline]
  rfl
section
variable {prog : Program} {w : World} {A : Around} {E : Value → Shared → Prop}
/-- the wrapper called: ValueError.__init__ of the object anew -/
theorem call_mw {h : Heap} {g : Array GenState} {d : Drawn} {t : Nat} {os : OsState} {nm q : Str} {C N : Addr} {bs bm : List Value} {hdct : Bool} {sn : List Str} {sub : List Value} {ab : Bool} {col : Option Bool} {dd : Option Addr} {k0 k1 k2 k3 k5 : Option Value}
    {u e t0 : Addr} {rest : List Value} {Q : Value → Shared → Prop}
    (hC : h.get? C = some (excClassObj nm q C N bs bm hdct sn sub ab col dd k0 k1 k2 k3 k5 "ValueError.__new__")) (he : h.get? e = some (excO C t0)) (hu : h.get? u = some (kxs_mw "ValueError.__init__" e)) (hrest : rest.length ≤ sizeLine)
    (hq : ∀ h' t1, (∀ b o, b ≠ e → h.get? b = some o → h'.get? b = some o) → h'.get? e = some (excO C t1) → Q .none ⟨h', g, d, t, os⟩) :
    wpAny (model prog w) A (call (.ref u) rest) Q E ⟨h, g, d, t, os⟩ := by
  refine wpAny_call (codeAny_of_tree ?_)
  show wpAny _ A.in1 (callAny (.ref u) ⟨rest, []⟩) _ _ _
  simp only [callAny]
  refine wpAny_bind (wpAny_load hu ?_)
  simp only [kxs_mw, show (Value.type "method-wrapper" == Value.type "method" || Value.type "method-wrapper" == Value.type "builtin_function_or_method" || Value.type "method-wrapper" == Value.type "method-wrapper") = true by decide, if_true]
  refine W.KFB.if_so (by decide) ?_
  refine wpAny_bind (check_bound_init F.excBase_ValueError.toExcCallFacts hC he rfl ?_)
  refine wpAny_bind (wpAny_pure (wpAny_pure ?_))
  refine ⟨plainId_quiet F.excBase_ValueError.init.plain _, codeAny_builtin F.excBase_ValueError.initEntry ?_⟩
  rw [Around.under_plainId F.excBase_ValueError.init.plain _]
  wp_walk
  refine hq _ h.objs.size (fun b o hb ho => ?_) ?_
  · rw [Heap.get?_update_other _ _ (Ne.symm hb)]
    exact Heap.get?_push_of_some _ ho
  · rw [Heap.get?_update_self _ (Heap.get?_push_of_some _ he) rfl]
    rfl
end
section
variable {prog : Program} {w : World} {A : Around} {E : Value → Shared → Prop} {R : Result → Shared → Prop} {s : Shared} {K : Frag} {mg : Str → Option Value} {x y : Str} {C fI : Addr}
theorem sup_init (T : SupTxt prog K mg x y C fI) {e t0 : Addr} {v : Value} (X : K.In s.heap) (hlim : s.heap.NoLimit) (hg : s.heap.Ns mainGlobals mg) (hb : ∃ mb, s.heap.Ns builtinsNs mb ∧ ∀ z : Str, z ≠ "__name__" → mb z = bootBuiltins z)
    (hx : s.heap.get? e = some (excO C t0)) (hnx : K.lookup e = none) (hroom : A.depth < recursionLimit)
    (hq : ∀ h' tk dx t1, InitEnd s.heap h' e C dx t1 y v → R (.ok (.ret .none)) { s with heap := h', toks := tk }) :
    codeAny (model prog w) A (.call (.ref fI) ⟨[.ref e, v], []⟩) R s := by
  obtain ⟨oc, od, kV, doc, pm, an, cda, ct, osl, qual, txt, cc, p1, p2, q1, q2, q3, q4, q5, q6, q7, q8, q9, q10, ho, hcd, ⟨ccl, cdd, vs, ccs, file, tf, hcda, hvs, hfile⟩, ⟨cl, cld, csl, hcc⟩, hline⟩ := T.fn
  obtain ⟨nm, q, N, bs, bm, sn, sub, ab, col, dd, k0, k1, k2, k3, k5, hC, hbm⟩ := T.cls
  have hcl : clsIn K C = some { name := nm, bases := bs, mro := .ref C :: bm, ns := N, qualname := q, hasDict := true, slotNames := sn, subclasses := sub, abstract := ab, collection := col, hasDel := false } := by unfold clsIn; rw [hC] <;> rfl
  have hsup := T.sup
  unfold ks_superIn at hsup
  rw [hcl] at hsup
  have noN := T.noN
  have fld := T.fld
  have sa := T.sa
  have veC := T.veC
  have mrC := T.mrC
  have opq := T.opq
  have noS := T.noS
  have top := T.top
  clear T
  rcases fld with rfl | rfl | rfl | rfl | rfl
  all_goals
    refine ks_codeAny_call_defAt (fd := ksFn "__init__" qual (iA _ p1 p2) (iB _ txt q1 q2 q3 q4 q5 q6 q7 q8 q9 q10) (iS _) .none kV doc pm an (.ref cda) ct cc) (body := iB _ txt q1 q2 q3 q4 q5 q6 q7 q8 q9 q10) (binds := [("self", .ref e), (_, v)]) hroom (X _ _ ho) rfl hlim (codeRec_of X hcd) rfl
      (BindsTo.of_eq (by first | rfl | with_unfolding_all rfl)) (by
        intro z hz
        have hz' : z ∈ (iS _).names := hz
        simp only [iS, List.mem_cons, List.not_mem_nil, or_false] at hz'
        rcases hz' with rfl | rfl | rfl | rfl <;> decide)
      (by
        intro z hz
        simp only [List.mem_cons, List.not_mem_nil, or_false] at hz
        rcases hz with rfl | rfl <;> first | rfl | decide | decide +kernel) (fun h₁ hn k => ?_) rfl rfl rfl
    obtain ⟨hp, g, d, t, os⟩ := s
    have X₁ : K.In h₁ := X.keeps k
    have hx₁ := k _ _ hx
    have hL : hp.objs.size ≠ e := Nat.ne_of_gt (Heap.lt_size hx)
    refine ks_wpAt_execs_cons (ks_wpAt_Expr_any (ks_wpAt_MethodCall ?_ (call_eq hline rfl)))
    refine ks_wpAt_super_base (f := fI) (cc := cda) (by first | rfl | with_unfolding_all rfl) (by first | rfl | with_unfolding_all rfl) (by decide) rfl (X₁ _ _ ho) rfl (by rfl) rfl (X₁ _ _ hcda) rfl hvs hfile top ?_
    obtain ⟨mb, hmb, hmbv⟩ := hb
    refine ks_loadName_global rfl (by first | rfl | with_unfolding_all rfl) (loadGlobal_builtin (hg.keeps k) noS (hmb.keeps k) ((hmbv _ (by decide)).trans (by first | rfl | decide +kernel | kernel_rfl)) ⟨rfl, ?_⟩)
    refine wpAny_loadName_free rfl (by first | rfl | with_unfolding_all rfl) (by first | rfl | with_unfolding_all rfl) ⟨_, X₁ _ _ hcc, rfl⟩ ?_
    refine wpAny_loadName_local rfl (by first | rfl | with_unfolding_all rfl) hn (v := .ref e) (by first | rfl | with_unfolding_all rfl | kernel_rfl) ?_
    refine ks_wpAny_isType_cls (X₁ _ _ hC) rfl ⟨rfl, ?_⟩
    refine ks_wpAny_call_super (X₁ _ _ hC) rfl hx₁ rfl (fun c z => by cases z) (looks_mroIn X₁ mrC) (fun h₂ hso k₂ => ?_)
    have X₂ : K.In h₂ := X₁.keeps k₂
    have hx₂ := k₂ _ _ hx₁
    have hneC : e ≠ C := fun z => by rw [z, hC] at hnx; cases hnx
    have I₂ : InstAt h₂ e (excO C t0) C none := ⟨hx₂, rfl, rfl, trivial⟩
    refine kxs_getMethod kxs_ValueError hso (looks_opaque X₂ opq) (l₀ := .ref C :: bm) (fun A Q E s k q => wpAny_bind ((looks_clsIn X₂ hcl) A _ E s k (wpAny_pure q))) rfl X₂ hsup (I₂.type.andThen (looks_subIn X₂ veC)) hneC (by decide) ?_
    refine kxs_callWith (i := "ValueError.__init__") (x := e) (by rfl) (evalArgs_plain (spliced_cons (wpAny_Constant_str (k := 0) (pos := q4) (spliced_nil ⟨Heap.get?_push_at rfl rfl, ?_⟩))))
    have up : ∀ b o, h₂.get? b = some o → (h₂.push (kxs_mw "ValueError.__init__" e)).get? b = some o := fun b o z => Heap.get?_push_of_some _ z
    refine call_mw (up _ _ (X₂ _ _ hC)) (up _ _ hx₂) (Heap.get?_push_at rfl rfl) (one_size _) (fun h₃ t1 k₃ hx₃ => ?_)
    have kk : ∀ b o, b ≠ e → h₁.get? b = some o → h₃.get? b = some o := fun b o z q => k₃ b o z (up _ _ (k₂ _ _ q))
    have X₃ : K.In h₃ := fun a o q => kk a o (fun z => by rw [z, hnx] at q; cases q) (X₁ a o q)
    obtain ⟨oL, es, ep, hoL, rL⟩ := hn
    have hn₃ : h₃.Ns hp.objs.size _ := ⟨oL, es, ep, kk _ _ hL hoL, rL⟩
    show wpAt _ _ _ (execs _ _) _ _ _
    refine wpAt_of_wpAny ?_
    refine wpAny_execs_cons (plainObj_wpAny_Assign_Attribute ?_)
    refine ld (v := v) hn₃ (by first | rfl | with_unfolding_all rfl | kernel_rfl) (ld (v := .ref e) hn₃ (by first | rfl | with_unfolding_all rfl | kernel_rfl) ?_)
    refine set_plain X₃ (ox := excO C t1) (od := none) ⟨hx₃, rfl, rfl, trivial⟩ sa ?_
    refine exc_osa X₃ hx₃ hcl (show refsVE (.ref C :: bm) = true from hbm) rfl noN (fun h₄ tk₄ dx k₄ dn dne hx₄ hn₄ => ?_)
    refine wpAny_execs_nil (hq h₄ tk₄ dx t1 ⟨fun b o hb z => k₄ b o hb (kk b o hb (k b o z)), hx₄, ?_, dne, hn₄⟩)
    have z := Heap.lt_size (kk _ _ hL hoL)
    exact Nat.le_of_lt (Nat.lt_of_lt_of_le z dn)
theorem sup_made (T : SupTxt prog K mg x y C fI) {v : Value} (X : K.In s.heap) (hlim : s.heap.NoLimit) (hg : s.heap.Ns mainGlobals mg) (hb : ∃ mb, s.heap.Ns builtinsNs mb ∧ ∀ z : Str, z ≠ "__name__" → mb z = bootBuiltins z) (hroom : A.depth + 1 < recursionLimit)
    (hq : ∀ h' tk e d, OwnMade s.heap h' e C d y v → R (.ok (.ret (.ref e))) { s with heap := h', toks := tk }) :
    codeAny (model prog w) A (.call (.ref C) ⟨[v], []⟩) R s := by
  obtain ⟨nm, q, N, bs, bm, sn, sub, ab, col, dd, k0, k1, k2, k3, k5, hC, hbm⟩ := T.cls
  obtain ⟨hp, g, dr, tk, os⟩ := s
  have k : ∀ b o, hp.get? b = some o → ((hp.push (kdv_tup [v])).push (excO C hp.objs.size)).get? b = some o := fun b o e => Heap.get?_push_of_some _ (Heap.get?_push_of_some _ e)
  have hget : ((hp.push (kdv_tup [v])).push (excO C hp.objs.size)).get? (hp.objs.size + 1) = some (excO C hp.objs.size) := by heap_get
  have hnx : K.lookup (hp.objs.size + 1) = none := by
    cases e : K.lookup (hp.objs.size + 1) with
    | none => rfl
    | some o =>
      have z : hp.get? (hp.objs.size + 1) = some o := X _ _ e
      exact absurd (Nat.lt_of_succ_lt (Heap.lt_size z)) (Nat.lt_irrefl _)
  refine call_own F.excBase_ValueError (fun X => refsVE_contains X bm hbm) (X _ _ hC) (looks_findIn X T.iC) (fun self => bind_fn X self T.tC) (one_size v) ?_
  obtain ⟨mb, hmb, hmv⟩ := hb
  refine sup_init (s := ⟨(hp.push (kdv_tup [v])).push (excO C hp.objs.size), g, dr, tk, os⟩) T (X.keeps k) (hlim.keeps k) (hg.keeps k) ⟨mb, hmb.keeps k, hmv⟩ hget hnx ?_ fun h' tk' dx t1 ⟨k', hx, dn, dne, hns⟩ => ?_
  · show A.depth + 1 < recursionLimit
    exact hroom
  · have old : ∀ b o, hp.get? b = some o → h'.get? b = some o := fun b o e => k' b o (Nat.ne_of_lt (Nat.lt_succ_of_lt (Heap.lt_size e))) (k b o e)
    have z : hp.objs.size + 1 + 1 ≤ dx := by
      first
        | (simpa only [Heap.size_push] using dn)
        | exact dn
        | (have q := dn; rw [Heap.size_push, Heap.size_push] at q; exact q)
    exact ⟨rfl, hq h' tk' (hp.objs.size + 1) dx ⟨old, Nat.le_succ _, ⟨_, _, hx, rfl, rfl, rfl, rfl⟩, Nat.le_trans (Nat.le_trans (Nat.le_succ _) (Nat.le_succ _)) z, dne, hns⟩⟩
end
end SupX
end PySem
namespace Ox
open PySem PySem.Spec PyProof.Rows L2
theorem relO_one {y : Str} {v : V} {v' : Value} (r : RelV v v') (f : Str) : RelO (List.lookup f [(y, v)]) (if f = y then some v' else none) := by
  by_cases hw : f = y
  · subst hw
    rw [if_pos rfl]
    have q : List.lookup f [(f, v)] = some v := by simp [List.lookup]
    rw [q]
    exact r
  · rw [if_neg hw]
    have qw : (f == y) = false := by simpa using hw
    have q2 : List.lookup f [(y, v)] = none := by simp [List.lookup, qw]
    rw [q2]
    trivial
section
variable {X : Cx} {x y : Str} {C fI : Addr}
/-- the class x, its own field y -/
structure ExcF (P : Program) (K : PySem.W.Frag) (mg : Str → Option Value) (x y : Str) (C : Addr) : Prop where
  ex : ∃ fI, PySem.SupX.SupTxt P K mg x y C fI
/-- X(e) -/
def tMkS (C : Addr) (y : Str) (ta : TA) : L2.St → Hp → XK → Prop := fun σ H Q => ta σ H fun vs H1 => ∃ v, vs = [v] ∧ ∀ d, H1 d = none → Q (.ref C) (some d) (upd H1 d (.xd [(y, v)]))
theorem pmk_sup {a : Expr} {ta : TA} {p pos : Pos} {k : Nat} (T : ExcF X.prog X.K X.mg x y C) (hr : Room k X.A) (ha : PA X [a] ta) (hg : Gl X x)
    (hdb : (x == ("__debug__" : Str)) = false := by decide) (he : starEach (a :: []) X.env = (false, eval a X.env) :: starEach [] X.env := by rfl) (hpl : (backTo pos (starEach [] X.env)).any (·.1) = false := by rfl) :
    PMk X (.Call (.Name x p) [a] [] pos) (tMkS C y ta) := by
  obtain ⟨fI, T⟩ := T.ex
  intro pins s σ H Q I h
  refine wpAny_Call_Name_kw (ld_glob I hg T.gC ?_ hdb)
  refine PySem.W.callWith_K (h₀ := X.base) I.ok.mod.kin T.kC (thn (ha.run pos pins s σ H _ I h) fun us s1 hh => ?_) he hpl
  obtain ⟨vs, H1, I1, r1, v, ev, q1⟩ := hh
  subst ev
  refine ⟨I1.kIn, ?_⟩
  cases r1 with
  | cons rv rn =>
    rename_i v' us'
    cases rn
    show wpAny _ _ (call (.ref C) [v']) _ _ _
    have hlim := I1.nolimit
    obtain ⟨mb, hmb, hmv⟩ := I1.mod.blt
    have hbl : ∃ mb, s1.heap.Ns builtinsNs mb ∧ ∀ z : Str, z ≠ "__name__" → mb z = bootBuiltins z := ⟨mb, hmb.keeps I1.bk, hmv⟩
    have hgl : s1.heap.Ns mainGlobals X.mg := I1.mod.glob.keeps I1.bk
    obtain ⟨hp, g, dr, tk, os⟩ := s1
    refine wpAny_call (PySem.SupX.sup_made T I1.kIn hlim hgl hbl (by have := hr.dp; omega) fun h' tk' e d M => ?_)
    show MkP X pins σ Q (.ref e) ⟨h', g, dr, tk', os⟩
    obtain ⟨oe, fv, hoe, hc, hd, hdat, h1⟩ := M.obj
    have hns := M.ns
    obtain ⟨G', g1, g2⟩ := restrict h' fun b => decide (b ≠ e)
    have gk : ∀ b, b ≠ e → G'.get? b = h'.get? b := fun b hb => g1 b (decide_eq_true hb)
    have ge : G'.get? e = none := g2 e (by simp)
    have old : ∀ b o, hp.get? b = some o → G'.get? b = some o := fun b o q => (gk b (Nat.ne_of_lt (Nat.lt_of_lt_of_le (Heap.lt_size q) M.new))).trans (M.keep b o q)
    have ob : ObjOk X.prog X.w (upd H1 d (.xd [(y, v)])) G' d (.xd [(y, v)]) :=
      ⟨_, hns.at (fun o q => (gk d M.dne).trans q), fun f => relO_one rv f⟩
    have J : Inv X pins σ (upd H1 d (.xd [(y, v)])) ⟨G', g, dr, tk', os⟩ := I1.laid (t' := tk') old M.dbig ob
    refine ⟨e, oe, fv, ⟨G', g, dr, tk', os⟩, _, .ref C, some d, rfl, J, fun b o q => ?_, ge, hoe, ⟨hc, hd⟩, hdat, h1, ?_, rfl, I1.bare, raises_own T.exC T.tyC, q1 d (I1.hok.fresh M.dbig)⟩
    · by_cases hb : b = e
      · have q' : G'.get? b = some o := q
        rw [hb, ge] at q'; cases q'
      · exact (gk b hb).symm.trans q
    · rw [upd_ne (Ne.symm M.dne)]
      exact I1.hok.fresh M.new
/-- raise X(e) -/
def tRaiseS (C : Addr) (y : Str) (W : WX) (ta : TA) : TS := fun _ σ H => tMkS C y ta σ H fun cls d H' => W cls d σ H'
theorem ps_raiseS {a : Expr} {ta : TA} {W : WX} {p pos pos2 : Pos} {k : Nat} (hc : X.calm = true) (tk : Takes X W) (T : ExcF X.prog X.K X.mg x y C) (hr : Room k X.A) (hg : Gl X x) (ha : PA X [a] ta) (hdb : (x == ("__debug__" : Str)) = false := by decide)
    (he : starEach (a :: []) X.env = (false, eval a X.env) :: starEach [] X.env := by rfl) (hpl : (backTo pos (starEach [] X.env)).any (·.1) = false := by rfl) :
    PS X (.Raise (some (.Call (.Name x p) [a] [] pos)) none pos2) (tRaiseS C y W ta) := ps_raise hc tk (pmk_sup T hr ha hg hdb he hpl)
/-- the exceptions that a read of the field y fits: its class told of the written part -/
structure ExcG (K : PySem.W.Frag) (C : Addr) (y : Str) : Prop where
  ga : PySem.W.findIn K (.ref C) "__getattribute__" = some (some (.builtin "BaseException.__getattribute__"))
  gg : PySem.W.findIn K (.ref C) "__getattr__" = some none
  exC : PySem.W.subIn K (.ref C) (.type "BaseException") = some true
  hdC : PySem.W.hasDictIn K C = true
  noN : PySem.W.findIn K (.ref C) y = some none
/-- e.y, e the exception that the suite holds (at a; its class cls, its dict d) -/
def tByS (K : PySem.W.Frag) (y : Str) (a : Addr) (cls : Value) (d : Option Addr) (te : TE) : TE := fun σ H Q => te σ H fun x H1 => x = .ref a ∧ ∃ (C dd : Addr) (v : V), cls = .ref C ∧ ExcG K C y ∧ d = some dd ∧ H1 dd = some (.xd [(y, v)]) ∧ Q v H1
theorem pe_byS {a : Addr} {oe : Obj} {cls : Value} {d : Option Addr} {pn : List (Addr × Obj)} {e : Expr} {te : TE} {pos : Pos} (hz : Zc cls d oe) (hf : ∃ vs, oe.data = .fields vs) (he : PE (X.suite a ((a, oe) :: pn)) e te)
    (hb : attributeBase e y X.env (eval e X.env) = eval e X.env := by rfl) :
    PE (X.suite a ((a, oe) :: pn)) (.Attribute e y pos) (tByS X.K y a cls d te) := by
  refine ⟨fun pins s σ H Q I h => ?_⟩
  refine attr_of hb (thn (he.run pins s σ H _ I h) fun u s1 hh => ?_)
  obtain ⟨x, H1, I1, rx, ex, C, dd, v, ec, T, ed, ea, q⟩ := hh
  subst ex
  obtain rfl : u = Value.ref a := rx
  subst ec
  subst ed
  obtain ⟨ha, _⟩ := I1.pin (a, oe) (List.mem_append_left _ List.mem_cons_self)
  obtain ⟨vs, hd⟩ := hf
  have hx : ObjOk X.prog X.w H1 s1.heap dd (.xd [(y, v)]) := I1.hok dd _ ea
  obtain ⟨mA, hns, hr⟩ := hx
  obtain ⟨od, ho, hl⟩ := lookIn_ns hns
  have l : List.lookup y [(y, v)] = some v := by simp [List.lookup]
  obtain ⟨u, hu, ru⟩ := RelO.some_of (v := v) (o := mA y) (by rw [← l]; exact hr y)
  have J : PySem.W.InstAt s1.heap a oe C (some od) := ⟨ha, hz.1, by unfold PySem.W.notCls; rw [hd] <;> rfl, by rw [hz.2]; exact ho⟩
  exact HandSPX.exc_get I1.kIn J T.ga T.gg T.exC (PySem.W.findObj_own T.hdC T.noN rfl (by rw [hl, hu])) (handed_of ru) ⟨v, H1, I1.tok _, ru, q⟩
end
section
variable {σ : L2.St} {H : Hp} {W : WX} {D : Ends} {C : Addr} {y : Str} {K : PySem.W.Frag}
/-- raised -/
theorem x_raiseS {ta : TA} (q : ta σ H fun vs H1 => ∃ v, vs = [v] ∧ ∀ d, H1 d = none → W (.ref C) (some d) σ (upd H1 d (.xd [(y, v)]))) : tRaiseS C y W ta D σ H := q
end
end Ox

/-! Own layer: several except clauses, each with a name or without; == of sequences by place or by data. -/
namespace Ox
open PySem PySem.Spec PyProof.Rows L2
/-- a clause: its class, the slot of its name (if it has one), its suite's reading -/
structure Cl where
  c : Value
  nm : Option Nat
  ts : Addr → Value → Option Addr → TS
/-- what a clause that fits wishes -/
def Cl.hit (k : Cl) (D : Ends) : WX := fun cls d σ H => ∀ a, H a = none → match k.nm with
  | some i => k.ts a cls d (sEnds i D) (σ.set i (some (.ref a))) H
  | none => k.ts a cls d D σ H
/-- .. and one clause behind the other -/
def wCls (K : PySem.W.Frag) (Wout : WX) (D : Ends) : List Cl → WX
  | [] => Wout
  | k :: r => fun cls d σ H => ∃ b, PySem.W.exmOne K cls k.c = some b ∧ (b = true → k.hit D cls d σ H) ∧ (b = false → wCls K Wout D r cls d σ H)
/-- the clauses' text -/
inductive ClsOk (X : Cx) : List ExceptHandler → List Cl → Prop
  | nil : ClsOk X [] []
  | named {x n : Str} {c : Value} {i : Nat} {ts : Addr → Value → Option Addr → TS} {b₀ : Stmt} {suite : List Stmt} {np p : Pos} {hds : List ExceptHandler} {l : List Cl} (hi : X.N[i]? = some n) (hn : X.env.kindOf n = some .local) (hc : Names X x c)
      (hsu : ∀ (a : Addr) (oe : Obj) (cls : Value) (d : Option Addr) (pn : List (Addr × Obj)), Zc cls d oe → (∃ vs, oe.data = .fields vs) → X.base.get? a = none → PSs (X.suite a ((a, oe) :: pn)) (b₀ :: suite) (ts a cls d)) (r : ClsOk X hds l) :
      ClsOk X (.ExceptHandler (some (.Name x np)) (some n) (b₀ :: suite) p :: hds) (⟨c, some i, ts⟩ :: l)
  | bare {x : Str} {c : Value} {ts : Addr → Value → Option Addr → TS} {b₀ : Stmt} {suite : List Stmt} {np p : Pos} {hds : List ExceptHandler} {l : List Cl} (hc : Names X x c)
      (hsu : ∀ (a : Addr) (oe : Obj) (cls : Value) (d : Option Addr) (pn : List (Addr × Obj)), Zc cls d oe → (∃ vs, oe.data = .fields vs) → X.base.get? a = none → PSs (X.suite a ((a, oe) :: pn)) (b₀ :: suite) (ts a cls d)) (r : ClsOk X hds l) :
      ClsOk X (.ExceptHandler (some (.Name x np)) none (b₀ :: suite) p :: hds) (⟨c, none, ts⟩ :: l)
section
variable {X : Cx}
/-- the reading of a suite's end goes over to what stands behind it -/
theorem sp_named {pins : List (Addr × Obj)} {a : Addr} {oe : Obj} {pn : List (Addr × Obj)} {i : Nat} {n : Str} {D : Ends} {pos : Pos} {f : Flow} {s : Shared} (ok : X.Ok) (hN : X.N.Nodup) (hi : X.N[i]? = some n) (hn : X.env.kindOf n = some .local)
    (h : SP (X.suite a ((a, oe) :: (X.pn ++ pins))) [] (sEnds i D) f s) :
    wpAny (model X.prog X.w) X.A (do bindName X.env n .none; unbindBehindTheSuite X.env n pos) (fun _ s' => SP X pins D f s') X.xe s := by
  cases f with
  | ret u =>
    obtain ⟨v, σ1, H1, S, r, q⟩ := h
    exact gone_ok (S.unsuite ok) hN hi hn fun s' J => ⟨v, _, _, J, r, q⟩
  | next =>
    obtain ⟨σ1, H1, S, q⟩ := h
    exact gone_ok (S.unsuite ok) hN hi hn fun s' J => ⟨_, _, J, q⟩
  | brk =>
    obtain ⟨σ1, H1, S, q⟩ := h
    exact gone_ok (S.unsuite ok) hN hi hn fun s' J => ⟨_, _, J, q⟩
  | cont =>
    obtain ⟨σ1, H1, S, q⟩ := h
    exact gone_ok (S.unsuite ok) hN hi hn fun s' J => ⟨_, _, J, q⟩
theorem sp_bare {pins : List (Addr × Obj)} {a : Addr} {oe : Obj} {pn : List (Addr × Obj)} {D : Ends} {f : Flow} {s : Shared} (ok : X.Ok) (h : SP (X.suite a ((a, oe) :: (X.pn ++ pins))) [] D f s) : SP X pins D f s := by
  cases f with
  | ret u =>
    obtain ⟨v, σ1, H1, S, r, q⟩ := h
    exact ⟨v, _, _, S.unsuite ok, r, q⟩
  | next =>
    obtain ⟨σ1, H1, S, q⟩ := h
    exact ⟨_, _, S.unsuite ok, q⟩
  | brk =>
    obtain ⟨σ1, H1, S, q⟩ := h
    exact ⟨_, _, S.unsuite ok, q⟩
  | cont =>
    obtain ⟨σ1, H1, S, q⟩ := h
    exact ⟨_, _, S.unsuite ok, q⟩
/-- behind a body that let nothing out -/
theorem sp_body {pins : List (Addr × Obj)} {xe : Value → Shared → Prop} {D : Ends} {f : Flow} {s : Shared} (ok : X.Ok) (h : SP (X.tr (X.pn ++ pins) xe) [] D f s) :
    match f with | .next => wpAny (model X.prog X.w) X.A (execs [] X.env) (SP X pins D) X.xe s | f => SP X pins D f s := by
  cases f with
  | ret u =>
    obtain ⟨v, σ1, H1, S, r, q⟩ := h
    exact ⟨v, _, _, S.ofTry ok, r, q⟩
  | next =>
    obtain ⟨σ1, H1, S, q⟩ := h
    exact wpAny_execs_nil ⟨_, _, S.ofTry ok, q⟩
  | brk =>
    obtain ⟨σ1, H1, S, q⟩ := h
    exact ⟨_, _, S.ofTry ok, q⟩
  | cont =>
    obtain ⟨σ1, H1, S, q⟩ := h
    exact ⟨_, _, S.ofTry ok, q⟩
/-- a caught exception goes through the clauses -/
theorem cls_go {pins : List (Addr × Obj)} {σ : L2.St} {H : Hp} {D : Ends} {Wout : WX} {cls : Value} {d : Option Addr} {a : Addr} {B : Heap} {sI s : Shared} (hst : X.stack = X.env :: X.outer) (hf : X.env.frame = some X.env.locals) (hN : X.N.Nodup) (tk : Takes X Wout)
    (J : Inv X pins σ H sI) (nb : ∀ b o, sI.heap.get? b = some o → b ∉ frs X.stack → B.get? b = some o) (up : sI.heap.UpToSlots s.heap) (fl : HandSPX.FlyingZ B X.stack a (Zc cls d) s.heap) (na : H a = none) (os : s.os = sI.os) (ag : AllBare s.gens) :
    ∀ {hds : List ExceptHandler} {l : List Cl}, ClsOk X hds l → wCls X.K Wout D l cls d σ H → wpAny (model X.prog X.w) X.A (handleBy (.ref a) X.env hds) (SP X pins D) X.xe s := by
  have ok := J.ok
  obtain ⟨hh, g, dr, tk', o'⟩ := s
  -- the place is neither a frame nor tracked
  have far : ∀ {h : Heap} {o : Obj} {vs : Array Value}, h.FunFrames B X.stack → h.get? a = some o → o.data = .fields vs → a ≠ X.env.locals ∧ a ∉ X.fs := by
    intro h o vs ff e dd
    have hm : a ∉ frs X.stack := by
      intro z
      obtain ⟨_, o2, e2, n2⟩ := ff.mem z
      rw [e] at e2
      cases e2
      exact n2 _ dd
    have em : frs X.stack = X.env.locals :: X.fs := by
      rw [hst]
      show List.filterMap _ (X.env :: X.outer) = _
      rw [List.filterMap_cons, hf]
      rfl
    rw [em] at hm
    exact ⟨fun z => hm (by rw [z]; exact List.mem_cons_self ..), fun z => hm (List.mem_cons_of_mem _ z)⟩
  have into : ∀ {h : Heap}, HandSPX.FlyingZ B X.stack a (Zc cls d) h → sI.heap.UpToSlots h → ∃ oe, Zc cls d oe ∧ (∃ vs, oe.data = .fields vs) ∧ h.get? a = some oe ∧ Inv (X.suite a ((a, oe) :: (X.pn ++ pins))) [] σ H ⟨h, g, dr, tk', o'⟩ := by
    intro h f u
    obtain ⟨oe, vs, he, hz, hd⟩ := f.there
    obtain ⟨n1, n2⟩ := far f.2.2.1 he hd
    have J1 : Inv X pins σ H ⟨h, g, dr, tk', o'⟩ := J.landed nb f.1 u os ag
    exact ⟨oe, hz, ⟨vs, hd⟩, he, J1.suite he hd na n1 n2⟩
  -- .. nor of the base
  have hnb : X.base.get? a = none := by
    cases e : X.base.get? a with
    | none => rfl
    | some o =>
      obtain ⟨oe, vs, he, hz, hd⟩ := fl.there
      have hm : a ∉ frs X.stack := by
        intro z
        obtain ⟨_, o2, e2, n2⟩ := fl.2.2.1.mem z
        rw [he] at e2
        cases e2
        exact n2 _ hd
      have z := nb a o (J.bk a o e) hm
      rw [fl.2.1] at z
      cases z
  obtain ⟨oe, hz, hdt, he, S⟩ := into fl up
  have LT : PySem.W.Looks (model X.prog X.w) hh (typeOf (.ref a)) cls := fun A Q E s k q => wpAny_typeOf_ref (k _ _ he) (by rw [hz.1]; exact q)
  have KI : X.K.In hh := S.kIn
  have test : ∀ {x : Str} {c : Value} {np : Pos} {b : Bool} {Q : Value → Shared → Prop} {E : Value → Shared → Prop}, Names X x c → Q c ⟨hh, g, dr, tk', o'⟩ →
      wpAny (model X.prog X.w) (X.A.mark (some (.ref a))) (eval (.Name x np) X.env) Q E ⟨hh, g, dr, tk', o'⟩ := by
    intro x c np b Q E hc q
    obtain ⟨hg, hdb, hm | ⟨hm, hv, hnn⟩⟩ := hc
    · exact ld_glob (X := X.suite a ((a, oe) :: (X.pn ++ pins))) S hg hm q hdb
    · exact ld_blt (X := X.suite a ((a, oe) :: (X.pn ++ pins))) S hg hm hv q hnn hdb
  intro hds l hk
  induction hk with
  | nil =>
    intro w
    refine wpAny_handleBy_nil ?_
    have fl0 := fl
    obtain ⟨_, _, _, oe1, vs1, T, _, _, he1, _, hd1, h1, _⟩ := fl0
    have out : wpAny (model X.prog X.w) X.A (setFlight (.ref a) X.env.frame) (fun _ s4 => wpAny (model X.prog X.w) X.A (throw (.ref a) : Sem Flow) (SP X pins D) X.xe s4) X.xe ⟨hh, g, dr, tk', o'⟩ := by
      rw [hf]
      refine HandSPX.setFlight_upZ fl fun h4 held up4 => wpAny_throw (tk _ _ ?_)
      exact ⟨a, B, sI, pins, σ, H, cls, d, rfl, J, nb, up.trans up4, .inr (.inr held), na, os, ag, w⟩
    unfold PySem.passOn
    refine wpAny_bind (wpAny_field he1 hd1 h1 ?_)
    rw [if_neg (by simp)]
    first
      | exact wpAny_bind (wpAny_pure (wpAny_bind out))
      | exact wpAny_bind out
  | @named x n c i ts b₀ suite np p hds l hi hn hc hsu r ih =>
    intro w
    obtain ⟨b, hb, yes, no⟩ := w
    refine wpAny_handleBy_cons (codeAny_handlers_test ?_) (by intro q; cases q)
    refine test (b := b) hc ((PySem.W.exm_one (M := model X.prog X.w) KI LT hb).here ?_)
    cases b with
    | false => exact ih (no rfl)
    | true =>
      refine codeAny_handlers_suite_as (HandSPX.lands_againZ fl fun h4 fl4 up4 => ?_)
      obtain ⟨oe4, hz4, hd4, _, S4⟩ := into fl4 (up.trans up4)
      refine store_ok (X := X.suite a ((a, oe4) :: (X.pn ++ pins))) (v := .ref a) S4 hN hi (.inl hn) rfl (fun s5 S5 => ?_) (.inr hn)
      exact wpAny_mono ((hsu a oe4 cls d (X.pn ++ pins) hz4 hd4 hnb).run [] s5 _ H _ S5 (yes rfl a na)) (fun f s6 h6 => sp_named (pn := X.pn ++ pins) ok hN hi hn h6) fun _ _ z => False.elim z
  | @bare x c ts b₀ suite np p hds l hc hsu r ih =>
    intro w
    obtain ⟨b, hb, yes, no⟩ := w
    refine wpAny_handleBy_cons (codeAny_handlers_test ?_) (by intro q; cases q)
    refine test (b := b) hc ((PySem.W.exm_one (M := model X.prog X.w) KI LT hb).here ?_)
    cases b with
    | false => exact ih (no rfl)
    | true =>
      refine codeAny_handlers_suite (HandSPX.lands_againZ fl fun h4 fl4 up4 => ?_)
      obtain ⟨oe4, hz4, hd4, _, S4⟩ := into fl4 (up.trans up4)
      exact wpAny_mono ((hsu a oe4 cls d (X.pn ++ pins) hz4 hd4 hnb).run [] _ _ H _ S4 (yes rfl a na)) (fun f s6 h6 => sp_bare (pn := X.pn ++ pins) ok h6) fun _ _ z => False.elim z
/-- its reading -/
def tTryC (K : PySem.W.Frag) (l : List Cl) (tb : WX → TS) (Wout : WX) : TS := fun D σ H => tb (wCls K Wout D l) D σ H
theorem ps_tryC {body : List Stmt} {h₀ : ExceptHandler} {hds : List ExceptHandler} {l : List Cl} {pos : Pos} {tb : WX → TS} {Wout : WX} (hN : X.N.Nodup) (hs : X.stack = X.env :: X.outer) (hf : X.env.frame = some X.env.locals) (tk : Takes X Wout)
    (hb : ∀ (W : WX) (pn : List (Addr × Obj)) (xe : Value → Shared → Prop), Takes (X.tr pn xe) W → PassesOwn (model X.prog X.w) X.A X.env xe → PSs (X.tr pn xe) body (tb W))
    (hh : ClsOk X (h₀ :: hds) l) : PS X (.Try body (h₀ :: hds) [] [] pos) (tTryC X.K l tb Wout) := by
  refine ⟨fun pins s σ H D I h => ?_⟩
  have ok := I.ok
  refine wpAny_Try_except ?_
  refine wpAny_mono ((hb (wCls X.K Wout D l) (X.pn ++ pins) (fun e s₁ => wpAny (model X.prog X.w) X.A (noteFrame e X.env) (fun _ s₂ => wpAny (model X.prog X.w) X.A (setFlight e none) (fun _ s₃ =>
    wpAny (model X.prog X.w) X.A (handleBy e X.env (h₀ :: hds)) (SP X pins D) X.xe s₃) X.xe s₂) X.xe s₁) (fun u s' air => ?_) PassesOwn.looking).run [] s σ H D (I.toTry _) h) (fun f s1 z => by cases f <;> exact sp_body ok z) (fun e s1 z => z)
  obtain ⟨a, B, sI, pins', σ', H', cls, d, rfl, J', nb, up, sky, na, os, ag, w⟩ := air
  have J : Inv X pins σ' H' sI := J'.ofTry ok
  have sky' : Sky B (X.env :: X.outer) a (Zc cls d) X.env.locals s'.heap := by rw [← hs]; exact sky
  show wpAny (model X.prog X.w) X.A (noteFrame (.ref a) X.env) _ _ _
  refine Sky.land Zc.steady (by rw [ok.frames, hs]) hf sky' fun h3 fl3 up3 => ?_
  exact cls_go (s := { s' with heap := h3 }) hs hf hN tk J nb (up.trans up3) (by rw [hs]; exact fl3) na os ag hh w
end
/-! ### == and != of sequences whose items are the same things, or equal data -/
mutual
inductive Alk (K : PySem.W.Frag) (H : Hp) : Nat → V → V → Prop
  | ref {n : Nat} (a : Addr) : Alk K H n (.ref a) (.ref a)
  | str {n : Nat} (x : Str) : Alk K H n (.str x) (.str x)
  | dat {n : Nat} {x y : V} {d : PyData} : Dp K H x d → Dp K H y d → SeqAt.shaped d = true → Alk K H n x y
  | tup {n : Nat} {a b : Addr} {xs ys : List V} : SqT K H a xs → SqT K H b ys → AlkA K H n xs ys → Alk K H (n + 1) (.ref a) (.ref b)
  | lst {n : Nat} {a b : Addr} {xs ys : List V} : SqL K H a xs → SqL K H b ys → AlkA K H n xs ys → Alk K H (n + 1) (.ref a) (.ref b)
inductive AlkA (K : PySem.W.Frag) (H : Hp) : Nat → List V → List V → Prop
  | nil {n : Nat} : AlkA K H n [] []
  | cons {n : Nat} {x y : V} {xs ys : List V} : Alk K H n x y → AlkA K H n xs ys → AlkA K H n (x :: xs) (y :: ys)
end
theorem Alk.int {K : PySem.W.Frag} {H : Hp} {n : Nat} (i : Int) : Alk K H n (.int i) (.int i) := .dat (.int i) (.int i) rfl
theorem Alk.bl {K : PySem.W.Frag} {H : Hp} {n : Nat} (b : Bool) : Alk K H n (.bl b) (.bl b) := .dat (.bl b) (.bl b) rfl
theorem Alk.non {K : PySem.W.Frag} {H : Hp} {n : Nat} : Alk K H n .non .non := .dat .non .non rfl
section
variable {X : Cx} {pins : List (Addr × Obj)} {σ : L2.St} {H : Hp} {s : Shared}
theorem AlkA.len {K : PySem.W.Frag} {n : Nat} : ∀ {xs ys : List V}, AlkA K H n xs ys → xs.length = ys.length
  | _, _, .nil => rfl
  | _, _, .cons _ r => by simp [r.len]
theorem vals_size : ∀ {xs : List V} {us : List Value}, Vals xs us → us.length = xs.length
  | _, _, .nil => rfl
  | _, _, .cons _ r => by simp [vals_size r]
theorem all_true {n : Nat} : ((List.range n).all fun _ => true) = true := by simp
mutual
theorem Alk.eq (I : Inv X pins σ H s) : ∀ {n : Nat} {x y : V}, Alk X.K H n x y → ∀ {u v : Value}, RelV x u → RelV y v → ∀ A : Around, A.units + 64 + n < cLine → SeqAt.EqAt A s u v true
  | _, _, _, .ref a, u, v, ru, rv, A, hu => by
    obtain rfl : u = Value.ref a := ru
    obtain rfl : v = Value.ref a := rv
    exact SeqAt.EqAt.same _
  | _, _, _, .str x, u, v, ru, rv, A, hu => by
    obtain ⟨t1, rfl⟩ := ru
    obtain ⟨t2, rfl⟩ := rv
    have e := SeqAt.EqAt.str_str (A := A) (s := s) x t1 x t2
    rw [beq_self_eq_true] at e
    exact e
  | _, _, _, .dat (d := d) h1 h2 hs, u, v, ru, rv, A, hu => by
    obtain ⟨as, r1⟩ := Dp.reads I d _ _ h1 ru
    obtain ⟨bs, r2⟩ := Dp.reads I d _ _ h2 rv
    have cl := SeqAt.canLay_of_shaped hs
    have e := SeqAt.eqAt_reads d d A s u v as bs r1 r2 cl cl (SeqAt.room_of_shaped hs (by omega))
    rw [SeqAt.eqv_refl d cl] at e
    exact e
  | _, _, _, .tup (n := n) (a := a) (b := b) h1 h2 hs, u, v, ru, rv, A, hu => by
    obtain rfl : u = Value.ref a := ru
    obtain rfl : v = Value.ref b := rv
    obtain ⟨is, w1, t1, _⟩ := I.tuple h1
    obtain ⟨js, w2, t2, _⟩ := I.tuple h2
    by_cases hab : a = b
    · subst hab; exact SeqAt.EqAt.same _
    · intro prog w E Q hq
      refine SeqAt.EqIn.of_refs hab (fun E Q hq => ?_) E Q hq
      refine SeqAt.rcIn_tuples (e := fun _ => true) t1 t2 (by omega) (fun j j1 j2 => (AlkA.eq I hs w1 w2 A.in1 (by show A.units + 1 + 64 + n < cLine; omega) j (by simpa using j1) (by simpa using j2)).inModel prog w) ?_
      have e : is.toArray.size = js.toArray.size := by rw [List.size_toArray, List.size_toArray, vals_size w1, vals_size w2, hs.len]
      rw [all_true, e, beq_self_eq_true]
      exact hq
  | _, _, _, .lst (n := n) (a := a) (b := b) h1 h2 hs, u, v, ru, rv, A, hu => by
    obtain rfl : u = Value.ref a := ru
    obtain rfl : v = Value.ref b := rv
    obtain ⟨is, w1, t1, _⟩ := I.list h1
    obtain ⟨js, w2, t2, _⟩ := I.list h2
    by_cases hab : a = b
    · subst hab; exact SeqAt.EqAt.same _
    · intro prog w E Q hq
      refine SeqAt.EqIn.of_refs hab (fun E Q hq => ?_) E Q hq
      have e : is.toArray.size = js.toArray.size := by rw [List.size_toArray, List.size_toArray, vals_size w1, vals_size w2, hs.len]
      refine SeqAt.rcIn_lists (e := fun _ => true) t1.isList t2.isList e (by omega) (fun j j1 j2 => (AlkA.eq I hs w1 w2 A.in1 (by show A.units + 1 + 64 + n < cLine; omega) j (by simpa using j1) (by simpa using j2)).inModel prog w) ?_
      rw [all_true]
      exact hq
theorem AlkA.eq (I : Inv X pins σ H s) : ∀ {n : Nat} {xs ys : List V}, AlkA X.K H n xs ys → ∀ {us vs : List Value}, Vals xs us → Vals ys vs → ∀ A : Around, A.units + 64 + n < cLine → ∀ j (j1 : j < us.length) (j2 : j < vs.length), SeqAt.EqAt A s us[j] vs[j] true
  | _, _, _, .nil, _, _, .nil, .nil, A, hu, j, j1, j2 => by simp at j1
  | _, _, _, .cons h t, _, _, .cons r1 w1, .cons r2 w2, A, hu, 0, j1, j2 => Alk.eq I h r1 r2 A hu
  | _, _, _, .cons h t, _, _, .cons r1 w1, .cons r2 w2, A, hu, j + 1, j1, j2 => AlkA.eq I t w1 w2 A hu j (by simpa using j1) (by simpa using j2)
end
/-- both are tuples, or both lists -/
def SqAlk (K : PySem.W.Frag) (H : Hp) (x y : V) : Prop := ∃ (a b : Addr) (xs ys : List V) (n : Nat), x = .ref a ∧ y = .ref b ∧ n ≤ 30 ∧ AlkA K H n xs ys ∧ ((SqT K H a xs ∧ SqT K H b ys) ∨ (SqL K H a xs ∧ SqL K H b ys))
def rEqA (K : PySem.W.Frag) : R2 := fun x y H Q => SqAlk K H x y ∧ Q (.bl true) H
def rNeA (K : PySem.W.Frag) : R2 := fun x y H Q => SqAlk K H x y ∧ Q (.bl false) H
theorem op_eqA (hu : X.A.units + 100 < cLine) : OpR X (compareOp .Eq) (rEqA X.K) := by
  intro pins s σ H x y v u Q I rx ry h
  obtain ⟨⟨a, b, xs, ys, n, rfl, rfl, hn, al, hs⟩, q⟩ := h
  obtain rfl : v = Value.ref a := rx
  obtain rfl : u = Value.ref b := ry
  show wpAny _ _ (richCompare .Eq (.ref a) (.ref b)) _ _ _
  rcases hs with ⟨h1, h2⟩ | ⟨h1, h2⟩
  · obtain ⟨is, w1, t1, _⟩ := I.tuple h1
    obtain ⟨js, w2, t2, _⟩ := I.tuple h2
    have e : is.toArray.size = js.toArray.size := by rw [List.size_toArray, List.size_toArray, vals_size w1, vals_size w2, al.len]
    refine SeqAt.rcIn_tuples (e := fun _ => true) t1 t2 (by omega) (fun j j1 j2 => (AlkA.eq I al w1 w2 X.A.in1 (by show X.A.units + 1 + 64 + n < cLine; omega) j (by simpa using j1) (by simpa using j2)).inModel _ _) ?_
    rw [all_true, e, beq_self_eq_true]
    exact ⟨.bl true, H, I, rfl, q⟩
  · obtain ⟨is, w1, t1, _⟩ := I.list h1
    obtain ⟨js, w2, t2, _⟩ := I.list h2
    have e : is.toArray.size = js.toArray.size := by rw [List.size_toArray, List.size_toArray, vals_size w1, vals_size w2, al.len]
    refine SeqAt.rcIn_lists (e := fun _ => true) t1.isList t2.isList e (by omega) (fun j j1 j2 => (AlkA.eq I al w1 w2 X.A.in1 (by show X.A.units + 1 + 64 + n < cLine; omega) j (by simpa using j1) (by simpa using j2)).inModel _ _) ?_
    rw [all_true]
    exact ⟨.bl true, H, I, rfl, q⟩
theorem op_neA (hu : X.A.units + 100 < cLine) : OpR X (compareOp .NotEq) (rNeA X.K) := by
  intro pins s σ H x y v u Q I rx ry h
  obtain ⟨⟨a, b, xs, ys, n, rfl, rfl, hn, al, hs⟩, q⟩ := h
  obtain rfl : v = Value.ref a := rx
  obtain rfl : u = Value.ref b := ry
  show wpAny _ _ (richCompare .NotEq (.ref a) (.ref b)) _ _ _
  rcases hs with ⟨h1, h2⟩ | ⟨h1, h2⟩
  · obtain ⟨is, w1, t1, _⟩ := I.tuple h1
    obtain ⟨js, w2, t2, _⟩ := I.tuple h2
    have e : is.toArray.size = js.toArray.size := by rw [List.size_toArray, List.size_toArray, vals_size w1, vals_size w2, al.len]
    refine SeqAt.RcNeAt.tuples (e := fun _ => true) t1 t2 (by omega) (fun j j1 j2 => AlkA.eq I al w1 w2 X.A.in1 (by show X.A.units + 1 + 64 + n < cLine; omega) j (by simpa using j1) (by simpa using j2)) _ _ _ _ ?_
    rw [all_true, e, beq_self_eq_true]
    exact ⟨.bl false, H, I, rfl, q⟩
  · obtain ⟨is, w1, t1, _⟩ := I.list h1
    obtain ⟨js, w2, t2, _⟩ := I.list h2
    have e : is.toArray.size = js.toArray.size := by rw [List.size_toArray, List.size_toArray, vals_size w1, vals_size w2, al.len]
    refine SeqAt.RcNeAt.lists (e := fun _ => true) t1.isList t2.isList e (by omega) (fun j j1 j2 => AlkA.eq I al w1 w2 X.A.in1 (by show X.A.units + 1 + 64 + n < cLine; omega) j (by simpa using j1) (by simpa using j2)) _ _ _ _ ?_
    rw [all_true]
    exact ⟨.bl false, H, I, rfl, q⟩
end
/-! ### methods that may raise -/
def tMethX (C : Addr) (m : Str) (sp : Sp) (E : L2.St → XK) (ta : TE) (t : TA) : TE := fun σ H Q => ta σ H fun x H1 => ∃ a dx fs, x = .ref a ∧ H1 a = some (.ins C dx fs) ∧ fs.lookup m = none ∧ t σ H1 fun vs H2 => sp (x :: vs) H2 Q (E σ)
section
variable {X : Cx} {k : Nat} {C : Addr} {m : Str} {ps : List Str} {sp : Sp} {o e : Expr} {es : List Expr} {ta : TE} {t : TA} {apos pos : Pos} {pl : Sem Bool} {W : WX}
theorem pe_mtX (M : MetX X.prog X.w X.K X.mg X.base C k m ps sp) (kc : Cls X.K C) (hr : Room k X.A) (tk : Takes X W) (he : PE X o ta) (ha : PA X (e :: es) t)
    (hst : starEach (e :: es) X.env = (false, eval e X.env) :: starEach es X.env := by rfl) (hpl : (backTo pos (starEach es X.env)).any (·.1) = false := by rfl)
    (ht : eval (.Call (.Attribute o m apos) (e :: es) [] pos) X.env = (do let ov ← eval o X.env; standAt apos.atName; let (f, first) ← holding [ov] (getMethod ov m pl); callWith pos f first (backTo pos (starEach (e :: es) X.env)) (backToKw pos (keywordEach [] X.env))) := by rfl) :
    PE X (.Call (.Attribute o m apos) (e :: es) [] pos) (tMethX C m sp (WE W) ta t) := by
  obtain ⟨f, fd, mt, F, hb⟩ := M.ex
  refine ⟨fun pins s σ H Q I h => PySem.W.methodCall_KW (pl := pl) (thn (he.run pins s σ H _ I h) ?_) ht⟩
  rintro u s1 ⟨_, H1, I1, rx, a, dx, fs, rfl, ea, l, q⟩
  cases (show u = Value.ref a from rx)
  refine getmeth_ok I1 ea kc mt l (PySem.W.callWith_K (first := [.ref a]) (h₀ := X.base) I.ok.mod.kin mt.kp (thn (ha.run pos pins s1 σ H1 _ I1 q) ?_) hst hpl)
  rintro us s2 ⟨vs, H2, I2, r, q2⟩
  exact ⟨I2.kIn, run_fnS (us := .ref a :: us) (vs := .ref a :: vs) F hr hb (passAt tk σ) I2 (.cons rfl r) q2⟩
end
section
variable {σ : L2.St} {H : Hp} {Q : VK} {D : Ends} {ta : TE} {al : TA} {C : Addr} {m : Str} {sp : Sp} {E : L2.St → XK} {K : PySem.W.Frag} {W Wout : WX} {cls : Value} {d : Option Addr} {k : Cl} {r : List Cl} {tb : WX → TS} {l : List Cl}
theorem x_mtX (h : ta σ H fun x H1 => rMtA C m x H1 (al σ H1 fun vs H2 => sp (x :: vs) H2 Q (E σ))) : tMethX C m sp E ta al σ H Q := h
theorem x_tryC (q : tb (wCls K Wout D l) D σ H) : tTryC K l tb Wout D σ H := q
theorem x_hit (e : PySem.W.exmOne K cls k.c = some true) (q : k.hit D cls d σ H) : wCls K Wout D (k :: r) cls d σ H := ⟨true, e, fun _ => q, fun z => nomatch z⟩
theorem x_miss (e : PySem.W.exmOne K cls k.c = some false) (q : wCls K Wout D r cls d σ H) : wCls K Wout D (k :: r) cls d σ H := ⟨false, e, (fun z => nomatch z), fun _ => q⟩
theorem x_hitN {c : Value} {i : Nat} {ts : Addr → Value → Option Addr → TS} (e : PySem.W.exmOne K cls c = some true) (q : ∀ a, H a = none → ts a cls d (sEnds i D) (σ.set i (some (.ref a))) H) : WE (wCls K Wout D (⟨c, some i, ts⟩ :: r)) σ cls d H := x_hit e q
theorem x_hitB {c : Value} {ts : Addr → Value → Option Addr → TS} (e : PySem.W.exmOne K cls c = some true) (q : ∀ a, H a = none → ts a cls d D σ H) : WE (wCls K Wout D (⟨c, none, ts⟩ :: r)) σ cls d H := x_hit e q
theorem x_missE (e : PySem.W.exmOne K cls k.c = some false) (q : WE (wCls K Wout D r) σ cls d H) : WE (wCls K Wout D (k :: r)) σ cls d H := x_miss e q
theorem x_byV {y : Str} {a : Addr} {dd : Addr} {v : V} {i : Nat} {C : Addr} (G : ExcG K C y) (hv : σ[i]? = some (some (.ref a))) (hd : H dd = some (.xd [(y, v)])) (q : Q v H) : tByS K y a (.ref C) (some dd) (tVar i) σ H Q :=
  ⟨.ref a, hv, rfl, C, dd, v, rfl, G, rfl, hd, q⟩
theorem hu100 {k : Nat} {A : Around} (r : Room k A) : A.units + 100 < cLine := by have := r.un; omega
end
end Ox

/-! Own layer: dicts whose keys are of many kinds at once (None, flags, whole numbers, texts, tuples of such). Raw part. -/
namespace Ox
open PySem PySem.Spec PyProof.Rows L2
open Sem (wp)
/-- key, the key as it lies, the value -/
abbrev MX := List (NestedKey × Value × Value)
def entM (w : World) (x : NestedKey × Value × Value) : DictEntry := ⟨x.1.hash w, x.2.1, x.2.2⟩
/-- at d stands a plain dict with just these -/
def MixAt (w : World) (h : Heap) (d : Addr) (xs : MX) : Prop := ∃ o es ep, h.get? d = some o ∧ o.ExactDict ∧ o.data = .dict es ep ∧ es.toList = xs.map (entM w) ∧ (xs.map (·.1)).Nodup
/-- what lies there as keys, are those keys -/
def KeysIn (h : Heap) (xs : MX) : Prop := ∀ x ∈ xs, NestedIs h x.1 x.2.1 ∧ x.1.depth ≤ 8
theorem ent_at {w : World} {es : Array DictEntry} {xs : MX} (he : es.toList = xs.map (entM w)) (j : Nat) : es[j]? = (xs[j]?).map (entM w) := by
  rw [← Array.getElem?_toList, he, List.getElem?_map]
theorem ent_size {w : World} {es : Array DictEntry} {xs : MX} (he : es.toList = xs.map (entM w)) : es.size = xs.length := by
  rw [← Array.length_toList, he, List.length_map]
theorem mix_unique {xs : MX} (hn : (xs.map (·.1)).Nodup) {i j : Nat} {k : NestedKey} {p q : Value × Value} (hi : xs[i]? = some (k, p)) (hj : xs[j]? = some (k, q)) : i = j := by
  have hi' : (xs.map (·.1))[i]? = some k := by rw [List.getElem?_map, hi]; rfl
  have hj' : (xs.map (·.1))[j]? = some k := by rw [List.getElem?_map, hj]; rfl
  exact (List.getElem?_inj (List.getElem?_eq_some_iff.mp hi').1 hn).mp (hi'.trans hj'.symm)
/-- where the key stands -/
def idxM {β : Type} (xs : List (NestedKey × β)) (k : NestedKey) : Option Nat := xs.findIdx? fun x => decide (x.1 = k)
theorem idxM_some {β : Type} {xs : List (NestedKey × β)} {k : NestedKey} {j : Nat} (h : idxM xs k = some j) : ∃ p, xs[j]? = some (k, p) := by
  obtain ⟨h1, h2, _⟩ := List.findIdx?_eq_some_iff_getElem.mp h
  refine ⟨xs[j].2, ?_⟩
  rw [List.getElem?_eq_getElem h1]
  have e : xs[j].1 = k := of_decide_eq_true h2
  rw [← e]
theorem idxM_none {β : Type} {xs : List (NestedKey × β)} {k : NestedKey} (h : idxM xs k = none) (j : Nat) (p : β) : xs[j]? ≠ some (k, p) := fun e => by
  have := List.findIdx?_eq_none_iff.mp h (k, p) (List.mem_of_getElem? e)
  simp at this
theorem idxM_of {xs : MX} (hn : (xs.map (·.1)).Nodup) {k : NestedKey} {j : Nat} {p : Value × Value} (h : xs[j]? = some (k, p)) : idxM xs k = some j := by
  cases e : idxM xs k with
  | none => exact absurd h (idxM_none e j p)
  | some i => obtain ⟨q, hq⟩ := idxM_some e; rw [mix_unique hn hq h]
section
variable {prog : Program} {w : World} {A : Around} {E : Value → Shared → Prop} {s : Shared}
theorem mix_quiet {k : NestedKey} {key : Value} {st : List Value} {Q : Bool → Shared → Prop} (hk : NestedIs s.heap k key) (hd : k.depth ≤ 8) (hst : ∀ v ∈ st, ∃ k', NestedIs s.heap k' v ∧ k'.depth ≤ 8) (h : Q false s) :
    wpAny (model prog w) A (tableMayTell key st) Q E s := by
  unfold tableMayTell
  split
  · exact wpAny_pure h
  · refine wpAny_bind (quiet_key k key 8 s hk hd _ _ _ ?_)
    simp only [Bool.not_true, Bool.false_eq_true, if_false]
    refine wpAny_bind ?_
    refine wpAny_forIn_list _ (fun rest r s' => s' = s ∧ r = (none, ()) ∧ ∀ v ∈ rest, ∃ k', NestedIs s.heap k' v ∧ k'.depth ≤ 8) _ ?_ ?_ _ _ ⟨rfl, rfl, hst⟩
    · rintro x rest r s' ⟨rfl, rfl, hr⟩
      obtain ⟨k', hb, hd'⟩ := hr x List.mem_cons_self
      refine wpAny_bind (quiet_key k' x 8 _ hb hd' _ _ _ ?_)
      simp only [Bool.not_true, Bool.false_eq_true, if_false]
      exact wpAny_pure ⟨rfl, rfl, fun v hv => hr v (List.mem_cons_of_mem _ hv)⟩
    · rintro r s' ⟨rfl, rfl, _⟩
      exact wpAny_pure h
theorem mix_eq {x y : NestedKey} {a b : Value} {Q : Bool → Shared → Prop} (hu : A.units + 8 < cLine) (hx : NestedIs s.heap x a) (dx : x.depth ≤ 8) (hy : NestedIs s.heap y b) (h : Q (decide (x = y)) s) : wpAny (model prog w) A (eqBool a b) Q E s :=
  eqAt_key x y A s _ _ hx hy (by omega) _ _ _ _ (by rw [← NestedKey.decide_eq]; exact h)
theorem mix_isStr {h : Heap} {k : NestedKey} {v : Value} {x : Str} (hk : NestedIs h k v) : v.isStr x = decide (k = .text x) := by
  cases hk with
  | text y t =>
    show Value.isStr (.str y t) x = _
    by_cases e : y = x
    · subst e; simp [Value.isStr]
    · rw [decide_eq_false (fun z => e (by injection z))]; simp [Value.isStr, e]
  | none => exact (show false = _ from (decide_eq_false (fun z => by cases z)).symm)
  | bool e => exact (show false = _ from (decide_eq_false (fun z => by cases z)).symm)
  | int i t => exact (show false = _ from (decide_eq_false (fun z => by cases z)).symm)
  | tup _ _ _ _ => exact (show false = _ from (decide_eq_false (fun z => by cases z)).symm)
theorem ent_find {k : NestedKey} {p : DictEntry → Bool} : ∀ {l : List DictEntry} {xs : MX}, l = xs.map (entM w) → (∀ x ∈ xs, p (entM w x) = decide (x.1 = k)) → l.findIdx? p = idxM xs k
  | _, [], rfl, _ => rfl
  | _, x :: xs, rfl, h => by
    have ih := ent_find (k := k) (p := p) (l := xs.map (entM w)) (xs := xs) rfl fun y hy => h y (List.mem_cons_of_mem _ hy)
    show List.findIdx? p (entM w x :: xs.map (entM w)) = List.findIdx? _ (x :: xs)
    rw [List.findIdx?_cons, List.findIdx?_cons, h x List.mem_cons_self, ih]
    rfl
/-- the search of a key -/
theorem mix_find {d : Addr} {o : Obj} {es : Array DictEntry} {ep : Nat} {xs : MX} {k : NestedKey} {key : Value} {Q : Option Nat → Shared → Prop} (hu : A.units + 8 < cLine) (hkey : NestedIs s.heap k key) (hkd : k.depth ≤ 8)
    (ho : s.heap.get? d = some o) (hd : o.data = .dict es ep) (he : es.toList = xs.map (entM w)) (hin : KeysIn s.heap xs) (hn : (xs.map (·.1)).Nodup) (h : Q (idxM xs k) s) :
    wpAny (model prog w) A (dictFind d key (k.hash w)) Q E s := by
  have hsz : es.size = xs.length := ent_size he
  have at_ : ∀ (j : Nat) (hj : j < es.size), ∃ (k' : NestedKey) (kv v : Value), xs[j]? = some (k', kv, v) ∧ es[j]? = some ⟨k'.hash w, kv, v⟩ ∧ NestedIs s.heap k' kv ∧ k'.depth ≤ 8 := fun j hj => by
    have hj' : j < xs.length := hsz ▸ hj
    refine ⟨xs[j].1, xs[j].2.1, xs[j].2.2, List.getElem?_eq_getElem hj', ?_, hin _ (List.getElem_mem hj')⟩
    rw [ent_at he j, List.getElem?_eq_getElem hj']; rfl
  have haskey : ∀ (j : Nat) (p : Value × Value), xs[j]? = some (k, p) → ((es[j]?.map (·.hash)) == some (k.hash w)) = true := fun j p hj => by
    rw [ent_at he j, hj]
    simp [entM]
  have nokey : ∀ (j : Nat), ((es[j]?.map (·.hash)) == some (k.hash w)) = false → ∀ p, xs[j]? ≠ some (k, p) := fun j hp p hj => by
    rw [haskey j p hj] at hp; cases hp
  have hst : ∀ v ∈ (placesWithHash es.size (fun i => es[i]?.map (·.hash)) (k.hash w)).filterMap (fun i => es[i]?.map (·.key)), ∃ k', NestedIs s.heap k' v ∧ k'.depth ≤ 8 := by
    intro v hv
    obtain ⟨i, _, hi⟩ := List.mem_filterMap.mp hv
    cases hei : es[i]? with
    | none => rw [hei] at hi; cases hi
    | some e =>
      rw [hei] at hi
      obtain rfl : e.key = v := by simpa using hi
      have hlt : i < es.size := (Array.getElem?_eq_some_iff.mp hei).1
      obtain ⟨k', kv, v', _, h2, h3⟩ := at_ i hlt
      rw [hei] at h2
      cases h2
      exact ⟨k', h3⟩
  have walkP : wpAny (model prog w) A (dictWalkPlain d key (k.hash w) es (placesWithHash es.size (fun i => es[i]?.map (·.hash)) (k.hash w))) Q E s := by
    refine wpAny_bind ?_
    refine wpAny_forIn_list _
      (fun rest b s' => s' = s ∧ b = (none, ()) ∧ ∃ i, rest = (List.range' i (es.size - i)).filter (fun i => (es[i]?.map (·.hash)) == some (k.hash w)) ∧ i ≤ es.size ∧
        ∀ j, j < i → ∀ p, xs[j]? ≠ some (k, p)) _ ?_ ?_ _ _
      ⟨rfl, rfl, 0, by rw [placesWithHash, List.range_eq_range', Nat.sub_zero], Nat.zero_le _, fun _ h => absurd h (Nat.not_lt_zero _)⟩
    · rintro x rest b s' ⟨rfl, rfl, i, hr, hi, hno⟩
      obtain ⟨hix, hxn, hpx, hskip, hrest⟩ := filter_range'_cons _ _ _ _ _ hr.symm
      have hlt : x < es.size := by omega
      obtain ⟨k', kv, v', e1, e2, e3, e4⟩ := at_ x hlt
      have hnext : ¬ k' = k → ∃ i, rest = (List.range' i (es.size - i)).filter (fun i => (es[i]?.map (·.hash)) == some (k.hash w)) ∧ i ≤ es.size ∧ ∀ j, j < i → ∀ p, xs[j]? ≠ some (k, p) := fun hne =>
        ⟨x + 1, by rw [hrest]; congr 2; omega, hlt, fun j hji => by
          rcases Nat.lt_or_ge j i with h | h
          · exact hno j h
          · rcases Nat.lt_or_ge j x with h' | h'
            · exact nokey j (hskip j h h')
            · have : j = x := by omega
              subst this
              intro p hp
              rw [e1] at hp
              injection hp with hp
              injection hp with hp _
              exact hne hp⟩
      simp only [e2]
      by_cases hh : (k'.hash w == k.hash w) = true
      · rw [if_pos hh]
        refine wpAny_bind (wpAny_dictEpoch ho hd (wpAny_bind (mix_eq hu e3 e4 hkey (wpAny_bind (wpAny_dictEpoch ho hd ?_)))))
        show wpAny _ _ (if (ep != ep) = true then _ else _) _ E _
        rw [if_neg (by simp)]
        by_cases hkk : k' = k
        · rw [decide_eq_true hkk]
          subst hkk
          rw [idxM_of hn e1] at h
          exact wpAny_bind (wpAny_rule (wpAny_pure (wpAny_pure h)))
        · rw [decide_eq_false hkk]
          exact wpAny_bind (wpAny_rule (wpAny_pure ⟨rfl, rfl, hnext hkk⟩))
      · rw [if_neg hh]
        refine wpAny_pure ⟨rfl, rfl, hnext ?_⟩
        intro hkk
        rw [hkk] at hh; simp at hh
    · rintro b s' ⟨rfl, rfl, i, hr, hi, hno⟩
      have hall : ∀ j, i ≤ j → j < es.size → ((es[j]?.map (·.hash)) == some (k.hash w)) = false := by
        intro j h1 h2
        have := List.filter_eq_nil_iff.mp hr.symm j (List.mem_range'_1.mpr ⟨h1, by omega⟩)
        simpa using this
      have : idxM xs k = none := by
        cases e : idxM xs k with
        | none => rfl
        | some j =>
          obtain ⟨p, hp⟩ := idxM_some e
          have hjl : j < es.size := by rw [hsz]; exact (List.getElem?_eq_some_iff.mp hp).1
          rcases Nat.lt_or_ge j i with h | h
          · exact absurd hp (hno j h p)
          · exact absurd hp (nokey j (hall j h hjl) p)
      rw [this] at h
      exact wpAny_pure h
  have hany : ¬ (es.any fun e => e.key == key && e.hash != k.hash w) = true := by
    rw [← Array.any_toList, List.any_eq_true]
    rintro ⟨e, hmem, hc⟩
    rw [he] at hmem
    obtain ⟨x, hx, rfl⟩ := List.mem_map.mp hmem
    simp only [entM, Bool.and_eq_true, beq_iff_eq, bne_iff_ne, ne_eq] at hc
    obtain ⟨hxa, hne⟩ := hc
    have := (hin x hx).1
    rw [hxa] at this
    exact hne (by rw [NestedIs.inj _ _ _ this hkey])
  unfold dictFind
  try with_reducible refine wpAny_holding ?_
  refine wpAny_bind (wpAny_dictEntries ho hd ?_)
  by_cases hq : ∃ x t, key = .str x t ∧ (es.all fun e => isExactStrKey e.key) = true
  · obtain ⟨x, t, rfl, hs⟩ := hq
    dsimp only
    rw [if_pos hs]
    have hk : k = .text x := NestedIs.inj _ _ _ hkey (.text x t)
    have hf : (es.findIdx? fun e => e.key.isStr x) = idxM xs k := by
      rw [← ent_find (w := w) (k := k) (p := fun e => e.key.isStr x) he fun y hy => ?_]
      · obtain ⟨l⟩ := es; simp
      · show y.2.1.isStr x = _
        rw [mix_isStr (hin y hy).1, hk]
    unfold foundByValue
    rw [hf]
    cases e : idxM xs k with
    | none => rw [e] at h; exact wpAny_pure h
    | some i =>
      rw [e] at h
      obtain ⟨p, hp⟩ := idxM_some e
      have hlt : i < es.size := by rw [hsz]; exact (List.getElem?_eq_some_iff.mp hp).1
      obtain ⟨k', kv, v', e1, e2, e3, e4⟩ := at_ i hlt
      have hkk : k' = k := by
        rw [e1] at hp
        injection hp with hp
        injection hp
      simp only [e2]
      refine wpAny_bind (wpAny_dictEpoch ho hd (wpAny_bind (mix_eq hu e3 e4 hkey (wpAny_bind (wpAny_dictEpoch ho hd ?_)))))
      show wpAny _ _ (if (ep != ep) = true then _ else _) _ E _
      rw [if_neg (by simp), decide_eq_true hkk]
      exact wpAny_bind (wpAny_rule (wpAny_pure h))
  · have shape : key = .none ∨ (∃ b, key = .bool b) ∨ (∃ i t, key = .int i t) ∨ (∃ x t, key = .str x t) ∨ ∃ a, key = .ref a := by
      cases hkey
      · exact .inl rfl
      · exact .inr (.inl ⟨_, rfl⟩)
      · exact .inr (.inr (.inl ⟨_, _, rfl⟩))
      · exact .inr (.inr (.inr (.inl ⟨_, _, rfl⟩)))
      · exact .inr (.inr (.inr (.inr ⟨_, rfl⟩)))
    by_cases hb : ((key :: (placesWithHash es.size (fun i => es[i]?.map (·.hash)) (k.hash w)).filterMap fun i => es[i]?.map (·.key)).all carriedByValue) = true
    · rcases shape with rfl | ⟨b, rfl⟩ | ⟨i, t, rfl⟩ | ⟨x, t, rfl⟩ | ⟨a, rfl⟩
      all_goals
        dsimp only
        first
          | rw [if_neg (fun z => hq ⟨_, _, rfl, z⟩), if_pos hb]
          | rw [if_pos hb]
        exact walkP
    · by_cases hone : (((placesWithHash es.size (fun i => es[i]?.map (·.hash)) (k.hash w)).filterMap (fun i => es[i]?.map (·.key))) == [key]) = true
      all_goals
        rcases shape with rfl | ⟨b, rfl⟩ | ⟨i, t, rfl⟩ | ⟨x, t, rfl⟩ | ⟨a, rfl⟩
        all_goals
          dsimp only
          first
            | rw [if_neg (fun z => hq ⟨_, _, rfl, z⟩), if_neg hb]
            | rw [if_neg hb]
          first
            | rw [if_neg hany]
            | skip
          first
            | rw [if_pos hone]
            | rw [if_neg hone]
          first
            | refine wpAny_bind (wpAny_pure ?_)
            | refine wpAny_bind (mix_quiet hkey hkd hst ?_)
          rw [if_neg (by simp)]
          refine wpAny_bind ?_
          refine wpAny_forIn_list _
            (fun rest b s' => s' = s ∧ ∃ i hit, b = (none, hit) ∧ rest = (List.range' i (es.size - i)).filter (fun i => (es[i]?.map (·.hash)) == some (k.hash w)) ∧ i ≤ es.size ∧
              ((hit = none ∧ ∀ j p, j < i → xs[j]? ≠ some (k, p)) ∨ ∃ j p, hit = some j ∧ j < i ∧ xs[j]? = some (k, p))) _ ?_ ?_ _ _
            ⟨rfl, 0, none, rfl, by rw [placesWithHash, List.range_eq_range', Nat.sub_zero], Nat.zero_le _, .inl ⟨rfl, fun _ _ h => absurd h (Nat.not_lt_zero _)⟩⟩
          · rintro x rest b s' ⟨rfl, i, hit, rfl, hr, hi, hH⟩
            obtain ⟨hix, hxn, hpx, hskip, hrest⟩ := filter_range'_cons _ _ _ _ _ hr.symm
            have hlt : x < es.size := by omega
            have hrest' : rest = (List.range' (x + 1) (es.size - (x + 1))).filter (fun i => (es[i]?.map (·.hash)) == some (k.hash w)) := by rw [hrest]; congr 2; omega
            obtain ⟨k', kv, v', e1, e2, e3, e4⟩ := at_ x hlt
            have hHx : (hit = none ∧ ∀ j p, j < x → xs[j]? ≠ some (k, p)) ∨ ∃ j p, hit = some j ∧ j < x ∧ xs[j]? = some (k, p) := by
              rcases hH with ⟨h0, hno⟩ | ⟨j, p, h1, hji, hj⟩
              · refine .inl ⟨h0, fun j p hjx => ?_⟩
                rcases Nat.lt_or_ge j i with h | h
                · exact hno j p h
                · exact nokey j (hskip j h hjx) p
              · exact .inr ⟨j, p, h1, by omega, hj⟩
            have hstay : ¬ k' = k → ((hit = none ∧ ∀ j p, j < x + 1 → xs[j]? ≠ some (k, p)) ∨ ∃ j p, hit = some j ∧ j < x + 1 ∧ xs[j]? = some (k, p)) := by
              intro hne
              rcases hHx with ⟨h0, hno⟩ | ⟨j, p, h1, hjx, hj⟩
              · refine .inl ⟨h0, fun j p hjx hj => ?_⟩
                rcases Nat.lt_or_ge j x with h | h
                · exact hno j p h hj
                · have hjx' : j = x := by omega
                  subst hjx'
                  rw [e1] at hj
                  injection hj with hj
                  injection hj with hj
                  exact hne hj
              · exact .inr ⟨j, p, h1, by omega, hj⟩
            rw [e2]
            dsimp only
            by_cases hh : (k'.hash w == k.hash w) = true
            · rw [if_pos hh]
              refine wpAny_bind (wpAny_dictEpoch ho hd (wpAny_bind (mix_eq hu e3 e4 hkey (wpAny_bind (wpAny_dictEpoch ho hd ?_)))))
              show wpAny _ _ (if (ep != ep) = true then _ else _) _ E _
              rw [if_neg (by simp)]
              by_cases hkk : k' = k
              · rw [decide_eq_true hkk]
                subst hkk
                rcases hHx with ⟨rfl, _⟩ | ⟨j, p, _, hjx, hj⟩
                · first
                    | rw [if_pos rfl]
                    | skip
                  simp only [Option.isSome_none, Bool.false_eq_true, if_false]
                  first
                    | refine wpAny_bind (wpAny_pure ?_)
                    | skip
                  refine wpAny_bind (wpAny_rule ?_)
                  split
                  · exact wpAny_pure (wpAny_pure (by rw [idxM_of hn e1] at h; exact h))
                  · exact wpAny_pure ⟨rfl, x + 1, some x, rfl, hrest', hlt, .inr ⟨x, _, rfl, Nat.lt_succ_self x, e1⟩⟩
                · exact absurd (mix_unique hn hj e1) (by omega)
              · rw [decide_eq_false hkk]
                simp only [Bool.false_eq_true, if_false]
                refine wpAny_bind (wpAny_rule ?_)
                first
                  | rw [if_neg (by simp)]
                  | skip
                first
                  | exact wpAny_pure ⟨rfl, x + 1, hit, rfl, hrest', hlt, hstay hkk⟩
                  | exact wpAny_bind (wpAny_pure (wpAny_pure ⟨rfl, x + 1, hit, rfl, hrest', hlt, hstay hkk⟩))
            · rw [if_neg hh]
              refine wpAny_pure ⟨rfl, x + 1, hit, rfl, hrest', hlt, hstay ?_⟩
              intro hkk
              rw [hkk] at hh; simp at hh
          · rintro b s' ⟨rfl, i, hit, rfl, hr, hi, hH⟩
            have hall : ∀ j, i ≤ j → j < es.size → ((es[j]?.map (·.hash)) == some (k.hash w)) = false := by
              intro j h1 h2
              have := List.filter_eq_nil_iff.mp hr.symm j (List.mem_range'_1.mpr ⟨h1, by omega⟩)
              simpa using this
            rcases hH with ⟨rfl, hno⟩ | ⟨j, p, rfl, _, hj⟩
            · have : idxM xs k = none := by
                cases e : idxM xs k with
                | none => rfl
                | some j =>
                  obtain ⟨p, hp⟩ := idxM_some e
                  have hjl : j < es.size := by rw [hsz]; exact (List.getElem?_eq_some_iff.mp hp).1
                  rcases Nat.lt_or_ge j i with h | h
                  · exact absurd hp (hno j p h)
                  · exact absurd hp (nokey j (hall j h hjl) p)
              rw [this] at h
              exact wpAny_pure h
            · rw [idxM_of hn hj] at h
              exact wpAny_pure h
end
/-! ### tables of such, looked up and changed -/
section
variable {β : Type}
def valM : List (NestedKey × β × β) → NestedKey → Option β
  | [], _ => none
  | p :: r, k => if p.1 = k then some p.2.2 else valM r k
def putM : List (NestedKey × β × β) → NestedKey → β → β → List (NestedKey × β × β)
  | [], k, y, v => [(k, y, v)]
  | p :: r, k, y, v => if p.1 = k then (p.1, p.2.1, v) :: r else p :: putM r k y v
def dropM : List (NestedKey × β × β) → NestedKey → List (NestedKey × β × β)
  | [], _ => []
  | p :: r, k => if p.1 = k then r else p :: dropM r k
theorem idxM_cons {p : NestedKey × β × β} {r : List (NestedKey × β × β)} {k : NestedKey} : idxM (p :: r) k = if p.1 = k then some 0 else (idxM r k).map (· + 1) := by
  unfold idxM
  rw [List.findIdx?_cons]
  by_cases e : p.1 = k
  · rw [if_pos (decide_eq_true e), if_pos e]
  · rw [if_neg (by rw [decide_eq_false e]; exact Bool.false_ne_true), if_neg e]
theorem idx_val : ∀ {xs : List (NestedKey × β × β)} {k : NestedKey}, valM xs k = (idxM xs k).bind fun j => (xs[j]?).map (·.2.2)
  | [], _ => rfl
  | p :: r, k => by
    rw [idxM_cons, valM]
    by_cases e : p.1 = k
    · rw [if_pos e, if_pos e]; rfl
    · rw [if_neg e, if_neg e, idx_val]
      cases idxM r k with
      | none => rfl
      | some j => rfl
theorem idx_put_none : ∀ {xs : List (NestedKey × β × β)} {k : NestedKey} {y v : β}, idxM xs k = none → putM xs k y v = xs ++ [(k, y, v)]
  | [], _, _, _, _ => rfl
  | p :: r, k, y, v, h => by
    rw [idxM_cons] at h
    by_cases e : p.1 = k
    · rw [if_pos e] at h; cases h
    · rw [if_neg e] at h
      rw [putM, if_neg e, idx_put_none (xs := r) (by cases q : idxM r k with | none => rfl | some j => rw [q] at h; cases h)]
      rfl
theorem idx_put_some {γ : Type} {f : NestedKey × β × β → γ} {g : γ → γ} {v : β} (hg : ∀ p : NestedKey × β × β, g (f p) = f (p.1, p.2.1, v)) : ∀ {xs : List (NestedKey × β × β)} {k : NestedKey} {y : β} {j : Nat}, idxM xs k = some j → (xs.map f).modify j g = (putM xs k y v).map f
  | [], _, _, _, h => by cases h
  | p :: r, k, y, j, h => by
    rw [idxM_cons] at h
    by_cases e : p.1 = k
    · rw [if_pos e] at h
      cases h
      rw [putM, if_pos e, List.map_cons, List.map_cons, List.modify_zero_cons, hg]
    · rw [if_neg e] at h
      cases q : idxM r k with
      | none => rw [q] at h; cases h
      | some i =>
        rw [q] at h
        cases h
        rw [putM, if_neg e, List.map_cons, List.map_cons, List.modify_succ_cons, idx_put_some hg q]
theorem put_mem : ∀ {xs : List (NestedKey × β × β)} {k : NestedKey} {y v : β} {x : NestedKey × β × β}, x ∈ putM xs k y v → (∃ z ∈ xs, z.1 = x.1 ∧ z.2.1 = x.2.1) ∨ x = (k, y, v)
  | [], _, _, _, x, h => .inr (by simpa [putM] using h)
  | p :: r, k, y, v, x, h => by
    rw [putM] at h
    by_cases e : p.1 = k
    · rw [if_pos e] at h
      rcases List.mem_cons.mp h with rfl | h
      · exact .inl ⟨p, List.mem_cons_self, rfl, rfl⟩
      · exact .inl ⟨x, List.mem_cons_of_mem _ h, rfl, rfl⟩
    · rw [if_neg e] at h
      rcases List.mem_cons.mp h with rfl | h
      · exact .inl ⟨x, List.mem_cons_self, rfl, rfl⟩
      · rcases put_mem h with ⟨z, hz, q⟩ | q
        · exact .inl ⟨z, List.mem_cons_of_mem _ hz, q⟩
        · exact .inr q
theorem put_nodup : ∀ {xs : List (NestedKey × β × β)} {k : NestedKey} {y v : β}, (xs.map (·.1)).Nodup → ((putM xs k y v).map (·.1)).Nodup
  | [], _, _, _, _ => by simp [putM]
  | p :: r, k, y, v, h => by
    rw [List.map_cons, List.nodup_cons] at h
    rw [putM]
    by_cases e : p.1 = k
    · rw [if_pos e, List.map_cons, List.nodup_cons]; exact h
    · rw [if_neg e, List.map_cons, List.nodup_cons]
      refine ⟨fun z => ?_, put_nodup h.2⟩
      obtain ⟨x, hx, q⟩ := List.mem_map.mp z
      rcases put_mem hx with ⟨u, hu, q1, _⟩ | q1
      · exact h.1 (List.mem_map.mpr ⟨u, hu, q1.trans q⟩)
      · rw [q1] at q; exact e q.symm
theorem put_len : ∀ {xs : List (NestedKey × β × β)} {k : NestedKey} {y v : β}, (putM xs k y v).length ≤ xs.length + 1
  | [], _, _, _ => by simp [putM]
  | p :: r, k, y, v => by
    rw [putM]
    by_cases e : p.1 = k
    · rw [if_pos e]; simp
    · rw [if_neg e, List.length_cons, List.length_cons]; have := put_len (xs := r) (k := k) (y := y) (v := v); omega
end
section
variable {prog : Program} {w : World} {A : Around} {E : Value → Shared → Prop} {s : Shared} {d : Addr} {xs : MX} {k : NestedKey} {key : Value}
theorem MixAt.typeIs {s : Shared} (m : MixAt w s.heap d xs) : s.TypeIs (.ref d) "dict" := let ⟨o, _, _, ho, hc, _⟩ := m; ⟨o, ho, hc.1⟩
theorem KeysIn.but {h h' : Heap} {o : Obj} {es : Array DictEntry} {ep : Nat} (hx : KeysIn h xs) (ho : h.get? d = some o) (hd : o.data = .dict es ep) (hs : Heap.SameBut d h h') : KeysIn h' xs := fun x m => ⟨NestedIs.at (fun b ob vs n hb hc => by
  refine (hs.2 b fun e => ?_).trans hb
  subst e
  rw [ho] at hb
  cases hb
  rw [hd] at hc
  cases hc) _ _ (hx x m).1, (hx x m).2⟩
theorem mix_get {Q : Option Value → Shared → Prop} (hu : A.units + 8 < cLine) (hk : NestedIs s.heap k key) (hkd : k.depth ≤ 8) (m : MixAt w s.heap d xs) (hin : KeysIn s.heap xs) (h : Q (valM xs k) { s with toks := s.toks + k.draws }) :
    wpAny (model prog w) A (dictGet d key) Q E s := by
  obtain ⟨o, es, ep, ho, hc, hd, he, hn⟩ := m
  unfold dictGet
  try with_reducible refine wpAny_holding ?_
  refine wpAny_bind (pyHash_key k key _ _ _ hk (by omega) (wpAny_bind (mix_find (s := { s with toks := s.toks + k.draws }) hu hk hkd ho hd he hin hn ?_)))
  rw [idx_val] at h
  cases e : idxM xs k with
  | none => rw [e] at h; exact wpAny_pure h
  | some j =>
    rw [e] at h
    refine wpAny_bind (wpAny_dictEntries (s := { s with toks := s.toks + k.draws }) ho hd ?_)
    rw [ent_at he j]
    refine wpAny_pure ?_
    obtain ⟨p, hp⟩ := idxM_some e
    change Q ((xs[j]?).map (·.2.2)) _ at h
    rw [hp] at h ⊢
    exact h
theorem mix_set {v : Value} {Q : Unit → Shared → Prop} (hu : A.units + 8 < cLine) (hk : NestedIs s.heap k key) (hkd : k.depth ≤ 8) (m : MixAt w s.heap d xs) (hin : KeysIn s.heap xs) (hz : xs.length ≤ sizeLine)
    (hQ : ∀ h', MixAt w h' d (putM xs k key v) → Heap.SameBut d s.heap h' → Q () { s with heap := h', toks := s.toks + k.draws }) : wpAny (model prog w) A (dictSet d key v) Q E s := by
  obtain ⟨o, es, ep, ho, hc, hd, he, hn⟩ := m
  unfold dictSet
  try with_reducible refine wpAny_holding ?_
  refine wpAny_bind (pyHash_key k key _ _ _ hk (by omega) ?_)
  unfold dictSetHashed
  try with_reducible refine wpAny_holding ?_
  refine wpAny_bind (mix_find (s := { s with toks := s.toks + k.draws }) hu hk hkd ho hd he hin hn ?_)
  cases e : idxM xs k with
  | none =>
    refine wpAny_bind (wpAny_rule (wpAny_updateDictKeys (hz := by have e := ent_size he; omega) (s := { s with toks := s.toks + k.draws }) ho hd (hQ _ ⟨_, _, ep + 1, Heap.get?_update_self _ ho (Obj.isFreed_of_dict (Obj.data_mapDictKeys hd _)),
      hc.mapDictKeys _, Obj.data_mapDictKeys hd _, ?_, put_nodup hn⟩ (Heap.SameBut.update ..))))
    rw [idx_put_none e]
    simp [he, entM]
  | some j =>
    refine wpAny_bind (wpAny_rule (wpAny_bind (wpAny_updateDict (s := { s with toks := s.toks + k.draws }) ho hd (wpAny_point (hQ _ ⟨_, _, ep, Heap.get?_update_self _ ho (Obj.isFreed_of_dict (Obj.data_mapDict hd _)),
      hc.mapDict _, Obj.data_mapDict hd _, ?_, put_nodup hn⟩ (Heap.SameBut.update ..))))))
    have := idx_put_some (f := entM w) (g := fun e : DictEntry => { e with val := v }) (v := v) (fun p => rfl) (y := key) e
    rw [← he] at this
    rw [← this]
    obtain ⟨l⟩ := es
    simp
theorem mix_contains {Q : Bool → Shared → Prop} (hu : A.in1.units + 8 < cLine) (hk : NestedIs s.heap k key) (hkd : k.depth ≤ 8) (hd : (d == sysModules) = false) (m : MixAt w s.heap d xs) (hin : KeysIn s.heap xs) (h : Q (valM xs k).isSome { s with toks := s.toks + k.draws }) :
    wpAny (model prog w) A (contains (.ref d) key) Q E s := by
  unfold contains
  try with_reducible refine wpAny_holding ?_
  refine wpAny_bind (wpAny_specialOf m.typeIs slot_dict_contains.lookup ?_)
  show wpAny _ _ (if (some (Value.builtin "dict.__contains__") == some Value.none) = true then _ else _) _ E s
  rw [if_neg (by rw [beq_builtin_none]; exact Bool.false_ne_true)]
  refine wpAny_bind (wpAny_callSpecialUnlessNone?_slot (name := Str.ofString "__contains__") m.typeIs slot_dict_contains
    (wpAny_call_entry slot_dict_contains m.typeIs entry_dict_contains ?_ (args_dict_contains _ _)))
  show wpAny _ _ (dictGet d key >>= _) _ _ s
  refine wpAny_bind (mix_get hu hk hkd m hin ?_)
  cases hf : valM xs k with
  | some v =>
    rw [hf] at h
    show wpAny _ _ (ret (.bool true)) _ _ _
    exact wpAny_pure ⟨_, rfl, wpAny_truthy_bool h⟩
  | none =>
    rw [hf] at h
    show wpAny _ _ (Builtin.Dict.pendingKey? d key >>= _) _ _ _
    exact wpAny_bind (wpAny_pendingKey_other hd (wpAny_pure ⟨_, rfl, wpAny_truthy_bool h⟩))
theorem mix_getItem {v : Value} {Q : Value → Shared → Prop} (hu : A.in1.units + 8 < cLine) (hk : NestedIs s.heap k key) (hkd : k.depth ≤ 8) (m : MixAt w s.heap d xs) (hin : KeysIn s.heap xs) (hv : valM xs k = some v) (h : Q v { s with toks := s.toks + k.draws }) :
    wpAny (model prog w) A (getItem (.ref d) key) Q E s := by
  unfold getItem
  try with_reducible refine wpAny_holding ?_
  refine wpAny_bind (wpAny_sequenceKey m.typeIs (by decide) ?_)
  refine wpAny_bind (wpAny_callSpecial?_slot (name := Str.ofString "__getitem__") m.typeIs slot_dict_getitem
    (wpAny_call_entry slot_dict_getitem m.typeIs entry_dict_getitem ?_ (args_dict_getitem _ _)))
  show wpAny _ _ (dictGet d key >>= _) _ _ s
  refine wpAny_bind (mix_get hu hk hkd m hin ?_)
  rw [hv]
  exact wpAny_pure ⟨v, rfl, wpAny_pure h⟩
theorem mix_setItem {v : Value} {Q : Unit → Shared → Prop} (hu : A.in1.units + 8 < cLine) (hk : NestedIs s.heap k key) (hkd : k.depth ≤ 8) (m : MixAt w s.heap d xs) (hin : KeysIn s.heap xs) (hz : xs.length ≤ sizeLine)
    (hQ : ∀ h', MixAt w h' d (putM xs k key v) → Heap.SameBut d s.heap h' → Q () { s with heap := h', toks := s.toks + k.draws }) : wpAny (model prog w) A (setItem (.ref d) key v) Q E s := by
  unfold setItem
  try with_reducible refine wpAny_holding ?_
  refine wpAny_bind (wpAny_sequenceKey m.typeIs (by decide) ?_)
  refine wpAny_bind (wpAny_callSpecial?_slot (name := Str.ofString "__setitem__") m.typeIs slot_dict_setitem
    (wpAny_call_entry slot_dict_setitem m.typeIs entry_dict_setitem ?_ (args_dict_setitem _ _ _)))
  show wpAny _ _ (Builtin.Dict.notOrdered "__setitem__" ⟨[.ref d, key, v], []⟩ >>= _) _ _ s
  refine wpAny_bind (wpAny_notOrdered_dict m.typeIs ?_)
  show wpAny _ _ (dictSet d key v >>= _) _ _ s
  exact wpAny_bind (mix_set hu hk hkd m hin hz fun h' m' hs' => wpAny_pure ⟨.none, rfl, wpAny_pure (hQ h' m' hs')⟩)
end
end Ox
namespace Ox
open PySem PySem.Spec PyProof.Rows L2
/-! ### as objects of the abstract heap -/
mutual
/-- the value v is the key k -/
inductive KeyV (K : PySem.W.Frag) (H : Hp) : NestedKey → V → Prop where
  | non : KeyV K H .none .non
  | bl (b : Bool) : KeyV K H (.num (if b = true then 1 else 0)) (.bl b)
  | int (i : Int) : KeyV K H (.num i) (.int i)
  | text (x : Str) : KeyV K H (.text x) (.str x)
  | tup {a : Addr} {vs : List V} {ks : List NestedKey} : SqT K H a vs → KeyVs K H ks vs → KeyV K H (.tup ks) (.ref a)
inductive KeyVs (K : PySem.W.Frag) (H : Hp) : List NestedKey → List V → Prop where
  | nil : KeyVs K H [] []
  | cons {k : NestedKey} {v : V} {ks : List NestedKey} {vs : List V} : KeyV K H k v → KeyVs K H ks vs → KeyVs K H (k :: ks) (v :: vs)
end
mutual
theorem KeyV.via {K : PySem.W.Frag} {H H' : Hp} (f : ∀ a vs, SqT K H a vs → SqT K H' a vs) : ∀ {k : NestedKey} {v : V}, KeyV K H k v → KeyV K H' k v
  | _, _, .non => .non
  | _, _, .bl b => .bl b
  | _, _, .int i => .int i
  | _, _, .text x => .text x
  | _, _, .tup h hs => .tup (f _ _ h) (KeyVs.via f hs)
theorem KeyVs.via {K : PySem.W.Frag} {H H' : Hp} (f : ∀ a vs, SqT K H a vs → SqT K H' a vs) : ∀ {ks : List NestedKey} {vs : List V}, KeyVs K H ks vs → KeyVs K H' ks vs
  | _, _, .nil => .nil
  | _, _, .cons h hs => .cons (KeyV.via f h) (KeyVs.via f hs)
end
section
variable {X : Cx} {pins : List (Addr × Obj)} {σ : L2.St} {H : Hp} {s : Shared}
mutual
theorem KeyV.is (I : Inv X pins σ H s) : ∀ {k : NestedKey} {v : V}, KeyV X.K H k v → ∀ {u : Value}, RelV v u → NestedIs s.heap k u
  | _, _, .non, _, r => by cases (show _ = Value.none from r); exact .none
  | _, _, .bl b, _, r => by cases (show _ = Value.bool b from r); exact .bool rfl
  | _, _, .int i, _, r => by obtain ⟨t, rfl⟩ := r; exact .int i t
  | _, _, .text x, _, r => by obtain ⟨t, rfl⟩ := r; exact .text x t
  | _, _, .tup (a := a) h hs, _, r => by
    cases (show _ = Value.ref a from r)
    obtain ⟨its, rv, ⟨o, h1, h2, n, h3⟩, _⟩ := I.tuple h
    exact .tup h1 h2 h3 (by simpa using KeyVs.is I hs rv)
theorem KeyVs.is (I : Inv X pins σ H s) : ∀ {ks : List NestedKey} {vs : List V}, KeyVs X.K H ks vs → ∀ {us : List Value}, Vals vs us → NestedAll s.heap ks us
  | _, _, .nil, _, r => by cases r; exact .nil
  | _, _, .cons h hs, _, r => by
    cases r with
    | cons r1 r2 => exact .cons (KeyV.is I h r1) (KeyVs.is I hs r2)
end
end
abbrev MV := List (NestedKey × V × V)
def RM (p : NestedKey × V × V) (q : NestedKey × Value × Value) : Prop := p.1 = q.1 ∧ RelV p.2.1 q.2.1 ∧ RelV p.2.2 q.2.2
def phM (w : World) (a : Addr) (kvs : MV) (h : Heap) : Prop := kvs.length ≤ sizeLine ∧ (a == sysModules) = false ∧ ∃ xs, Paired RM kvs xs ∧ MixAt w h a xs
/-- a dict with keys of many kinds -/
def dM (w : World) (a : Addr) (kvs : MV) : HO := .ext (phM w a kvs)
theorem dM_mk {P : Program} {w : World} {H : Hp} {h : Heap} {a : Addr} {kvs : MV} (p : phM w a kvs h) : ObjOk P w H h a (dM w a kvs) := by
  refine ⟨p, ?_, fun h1 h2 q k => ?_⟩
  · obtain ⟨_, _, _, _, o, _, _, e, _⟩ := p
    exact ⟨o, e⟩
  · obtain ⟨q1, q2, xs, q3, o, es, ep, e, r⟩ := q
    exact ⟨q1, q2, xs, q3, o, es, ep, k o e, r⟩
def nk : Key → NestedKey
  | .inl i => .num i
  | .inr x => .text x
theorem nk_inj {a b : Key} (h : nk a = nk b) : a = b := by
  cases a <;> cases b
  · injection h with h; rw [h]
  · cases h
  · cases h
  · injection h with h; rw [h]
def toM (p : Key × V) : NestedKey × V × V := (nk p.1, kV p.1, p.2)
/-- a dict of whole numbers and texts, as one of those -/
def MRd (w : World) (H : Hp) (a : Addr) (kvs : MV) : Prop := Rd H a (dM w a kvs) ∨ ∃ ks, Rd H a (.dK ks) ∧ kvs = ks.map toM
def MWr (w : World) (H : Hp) (a : Addr) (kvs : MV) : Prop := H a = some (dM w a kvs) ∨ ∃ ks, H a = some (.dK ks) ∧ kvs = ks.map toM
theorem MWr.rd {w : World} {H : Hp} {a : Addr} {kvs : MV} (h : MWr w H a kvs) : MRd w H a kvs := h.imp .inl fun ⟨ks, e, q⟩ => ⟨ks, .inl e, q⟩
theorem MRd.same {w : World} {H H' : Hp} {a : Addr} {kvs : MV} (s : L2.Same H H') (h : MRd w H a kvs) : MRd w H' a kvs := h.imp (rd_same s) fun ⟨ks, e, q⟩ => ⟨ks, rd_same s e, q⟩
theorem MWr.same {w : World} {H H' : Hp} {a : Addr} {kvs : MV} (s : L2.Same H H') (h : MWr w H a kvs) : MWr w H' a kvs := h.imp (s _ _) fun ⟨ks, e, q⟩ => ⟨ks, s _ _ e, q⟩
theorem mix_of_dK {P : Program} {w : World} {es : List DictEntry} (hk : ∀ e ∈ es, ∃ k, (mixKind P w).is k e.key = true ∧ e.hash = (mixKind P w).hash k) : ∀ {ks : List (Key × V)} {vs : List (Key × Value)}, Pairs (mixKind P w) es vs → KV ks vs → ∃ xs : MX, es = xs.map (entM w) ∧ Paired RM (ks.map toM) xs ∧ xs.map (·.1) = vs.map (fun p => nk p.1) := by
  intro ks vs hp
  induction hp generalizing ks with
  | nil => intro r; cases r; exact ⟨[], rfl, .nil, rfl⟩
  | @cons e kv es' kvs' h1 h2 t ih =>
    intro r
    cases r with
    | @cons p _ ps _ r1 r2 =>
      obtain ⟨xs, i1, i2, i3⟩ := ih (fun e m => hk e (List.mem_cons_of_mem _ m)) r2
      obtain ⟨k', g1, g2⟩ := hk e List.mem_cons_self
      have ek : k' = kv.1 := (mixKind P w).inj _ _ _ g1 h1
      subst ek
      refine ⟨(nk kv.1, e.key, e.val) :: xs, ?_, .cons ⟨?_, ?_, ?_⟩ i2, ?_⟩
      · rw [List.map_cons, ← i1]
        congr 1
        show e = ⟨(nk kv.1).hash w, e.key, e.val⟩
        have : e.hash = (nk kv.1).hash w := by
          rw [g2]
          cases kv.1 with
          | inl i => rfl
          | inr x => rfl
        rw [← this]
      · show nk p.1 = nk kv.1
        rw [r1.1]
      · show RelV (kV p.1) e.key
        rw [r1.1]
        rcases keyIs_shape (show keyIs kv.1 e.key = true from h1) with ⟨i, u, e1, e2⟩ | ⟨x, u, e1, e2⟩
        · rw [e1, e2]; exact ⟨u, rfl⟩
        · rw [e1, e2]; exact ⟨u, rfl⟩
      · show RelV p.2 e.val
        rw [h2]
        exact r1.2
      · rw [List.map_cons, List.map_cons, i3]
theorem phM_dK {P : Program} {w : World} {H : Hp} {h : Heap} {a : Addr} {ks : List (Key × V)} (o : ObjOk P w H h a (.dK ks)) : phM w a (ks.map toM) h := by
  obtain ⟨z, hd, vs, rel, ob, es, ep, h1, h2, h3, h4, h5, h6⟩ := o
  obtain ⟨xs, i1, i2, i3⟩ := mix_of_dK (fun e m => h4 e (Array.mem_toList_iff.mp m)) h5 rel
  refine ⟨by rw [List.length_map]; exact z, hd, xs, i2, ob, es, ep, h1, h2, h3, i1, ?_⟩
  rw [i3, show vs.map (fun p => nk p.1) = (vs.map (·.1)).map nk by rw [List.map_map]; rfl]
  exact List.pairwise_map.mpr (h6.imp fun h e => h (nk_inj e))
theorem MRd.ph {P : Program} {w : World} {H : Hp} {h : Heap} {a : Addr} {kvs : MV} (ok : HOk P w H h) (m : MRd w H a kvs) : phM w a kvs h := by
  rcases m with m | ⟨ks, m, rfl⟩
  · exact (show ObjOk P w H h a (dM w a kvs) from m.ok ok).1
  · exact phM_dK (P := P) (H := H) (m.ok ok)
/-- the keys are what they are told as -/
def KeysOk (K : PySem.W.Frag) (H : Hp) (kvs : MV) : Prop := ∀ p ∈ kvs, KeyV K H p.1 p.2.1 ∧ p.1.depth ≤ 8
theorem KeysOk.via {K : PySem.W.Frag} {H H' : Hp} {kvs : MV} (f : ∀ a vs, SqT K H a vs → SqT K H' a vs) (h : KeysOk K H kvs) : KeysOk K H' kvs := fun p m => ⟨(h p m).1.via f, (h p m).2⟩
theorem keysOk_dK (K : PySem.W.Frag) (H : Hp) (ks : List (Key × V)) : KeysOk K H (ks.map toM) := fun p m => by
  obtain ⟨q, _, rfl⟩ := List.mem_map.mp m
  obtain ⟨k, v⟩ := q
  cases k with
  | inl i => exact ⟨.int i, Nat.zero_le _⟩
  | inr x => exact ⟨.text x, Nat.zero_le _⟩
theorem rm_mem {kvs : MV} {xs : MX} (r : Paired RM kvs xs) : ∀ x ∈ xs, ∃ p ∈ kvs, RM p x := by
  induction r with
  | nil => intro x m; cases m
  | cons h t ih =>
    intro x m
    rcases List.mem_cons.mp m with rfl | m
    · exact ⟨_, List.mem_cons_self, h⟩
    · obtain ⟨p, hp, q⟩ := ih x m
      exact ⟨p, List.mem_cons_of_mem _ hp, q⟩
theorem rm_val {kvs : MV} {xs : MX} (r : Paired RM kvs xs) (k : NestedKey) : RelO (valM kvs k) (valM xs k) := by
  induction r with
  | nil => exact True.intro
  | @cons p x _ _ h t ih =>
    rw [valM, valM, h.1]
    by_cases e : x.1 = k
    · rw [if_pos e, if_pos e]; exact h.2.2
    · rw [if_neg e, if_neg e]; exact ih
theorem rm_put {kvs : MV} {xs : MX} (r : Paired RM kvs xs) (k : NestedKey) {y v : V} {u z : Value} (ry : RelV y u) (rv : RelV v z) : Paired RM (putM kvs k y v) (putM xs k u z) := by
  induction r with
  | nil => exact .cons ⟨rfl, ry, rv⟩ .nil
  | @cons p x _ _ h t ih =>
    rw [putM, putM, h.1]
    by_cases e : x.1 = k
    · rw [if_pos e, if_pos e]; exact .cons ⟨rfl, h.2.1, rv⟩ t
    · rw [if_neg e, if_neg e]; exact .cons h ih
/-- what the dict at a holds at the key y -/
def MGet (K : PySem.W.Frag) (w : World) (H : Hp) (a : Addr) (y : V) (r : Option V) : Prop := ∃ kvs k, MRd w H a kvs ∧ KeysOk K H kvs ∧ KeyV K H k y ∧ k.depth ≤ 8 ∧ r = valM kvs k
section
variable {X : Cx} {pins : List (Addr × Obj)} {σ : L2.St} {H : Hp} {s : Shared} {a : Addr} {y v : V} {u r : Value} {o : Option V} {A : Around} {E : Value → Shared → Prop}
theorem m_keys {kvs : MV} {xs : MX} (I : Inv X pins σ H s) (hk : KeysOk X.K H kvs) (rel : Paired RM kvs xs) : KeysIn s.heap xs := fun x m => by
  obtain ⟨p, hp, q1, q2, _⟩ := rm_mem rel x m
  rw [← q1]
  exact ⟨(hk p hp).1.is I q2, (hk p hp).2⟩
theorem m_getItem {Q : Value → Shared → Prop} (hu : A.units + 100 < cLine) (I : Inv X pins σ H s) (g : MGet X.K X.w H a y (some v)) (ry : RelV y u) (h : ∀ z s', Inv X pins σ H s' → RelV v z → Q z s') : wpAny (model X.prog X.w) A (getItem (.ref a) u) Q E s := by
  obtain ⟨kvs, k, e, hk, ey, kd, l⟩ := g
  obtain ⟨_, _, xs, rel, dd⟩ := e.ph I.hok
  obtain ⟨z, hz, rz⟩ := RelO.some_of (v := v) (o := valM xs k) (by rw [l]; exact rm_val rel k)
  exact mix_getItem (by simp only [Around.in1_units]; omega) (ey.is I ry) kd dd (m_keys I hk rel) hz (h z _ (I.tok _) rz)
theorem m_contains {Q : Bool → Shared → Prop} (hu : A.units + 100 < cLine) (I : Inv X pins σ H s) (g : MGet X.K X.w H a y o) (ry : RelV y u) (h : ∀ s', Inv X pins σ H s' → Q o.isSome s') : wpAny (model X.prog X.w) A (contains (.ref a) u) Q E s := by
  obtain ⟨kvs, k, e, hk, ey, kd, l⟩ := g
  obtain ⟨_, hd, xs, rel, dd⟩ := e.ph I.hok
  refine mix_contains (by simp only [Around.in1_units]; omega) (ey.is I ry) kd hd dd (m_keys I hk rel) ?_
  rw [← (rm_val rel k).isSome_eq, ← l]
  exact h _ (I.tok _)
theorem m_setItem {kvs : MV} {k : NestedKey} {Q : Unit → Shared → Prop} (hu : A.units + 100 < cLine) (I : Inv X pins σ H s) (e : MWr X.w H a kvs) (hk : KeysOk X.K H kvs) (ey : KeyV X.K H k y) (kd : k.depth ≤ 8) (hl : kvs.length < sizeLine) (ry : RelV y u) (rv : RelV v r)
    (h : ∀ s', Inv X pins σ (upd H a (dM X.w a (putM kvs k y v))) s' → Q () s') : wpAny (model X.prog X.w) A (setItem (.ref a) u r) Q E s := by
  obtain ⟨z, hd, xs, rel, dd⟩ := e.rd.ph I.hok
  have hz : xs.length ≤ sizeLine := by rw [← Paired.length rel]; exact z
  refine mix_setItem (by simp only [Around.in1_units]; omega) (ey.is I ry) kd dd (m_keys I hk rel) hz fun h' dd' hs => h _ ?_
  have he : ∃ q, h'.get? a = some q := let ⟨q, _, _, hq, _⟩ := dd'; ⟨q, hq⟩
  have hl2 : (putM kvs k y v).length ≤ sizeLine := by have := put_len (xs := kvs) (k := k) (y := y) (v := v); omega
  exact d_write I (by rcases e with e | ⟨_, e, _⟩ <;> rw [e] <;> exact True.intro) hs he (dM_mk ⟨hl2, hd, _, rm_put rel k ry rv, dd'⟩)
theorem m_typeIs {kvs : MV} (I : Inv X pins σ H s) (g : MRd X.w H a kvs) : s.TypeIs (.ref a) "dict" := by
  obtain ⟨_, _, xs, _, dd⟩ := g.ph I.hok
  exact dd.typeIs
end
/-! ### readings and rules -/
def tMGet (K : PySem.W.Frag) (w : World) (td ty : TE) : TE := fun σ H Q => td σ H fun x H1 => ty σ H1 fun y H2 => ∃ a v, x = .ref a ∧ MGet K w H2 a y (some v) ∧ Q v H2
def tMIn (K : PySem.W.Frag) (w : World) (ty td : TE) : TE := fun σ H Q => ty σ H fun y H1 => td σ H1 fun x H2 => ∃ a o, x = .ref a ∧ MGet K w H2 a y o ∧ Q (.bl o.isSome) H2
def tMNotIn (K : PySem.W.Frag) (w : World) (ty td : TE) : TE := fun σ H Q => ty σ H fun y H1 => td σ H1 fun x H2 => ∃ a o, x = .ref a ∧ MGet K w H2 a y o ∧ Q (.bl (!o.isSome)) H2
def sMPut (K : PySem.W.Frag) (w : World) (td ty tv : TE) : TS := fun D σ H => tv σ H fun v H1 => td σ H1 fun x H2 => ty σ H2 fun y H3 => ∃ a kvs k, x = .ref a ∧ MWr w H3 a kvs ∧ KeysOk K H3 kvs ∧ KeyV K H3 k y ∧ k.depth ≤ 8 ∧ kvs.length < sizeLine ∧ D.nx σ (upd H3 a (dM w a (putM kvs k y v)))
section
variable {X : Cx} {o i value : Expr} {pos pos' : Pos} {td ty tv : TE}
theorem pe_mget (hu : X.A.units + 100 < cLine) (ho : PE X o td) (hi : PE X i ty) (hs : NoSl i) : PE X (.Subscript o i pos) (tMGet X.K X.w td ty) := by
  refine ⟨fun pins s σ H Q I h => ?_⟩
  refine subD_of PySem.F.slot_dict_getitem.lookup hs (thn (ho.run pins s σ H _ I h) fun u s1 ⟨x, H1, I1, rx, q1⟩ => thn (hi.run pins s1 σ H1 _ I1 q1) fun iv s2 ⟨y, H2, I2, ry, a, v, ex, g, q2⟩ => ?_)
  subst ex
  obtain rfl : u = Value.ref a := rx
  exact ⟨let ⟨_, _, e, _⟩ := g; m_typeIs I2 e, m_getItem hu I2 g ry fun z s3 I3 rz => ⟨v, H2, I3, rz, q2⟩⟩
theorem pc_min (hu : X.A.units + 100 < cLine) (hi : PE X i ty) (ho : PE X o td) : PC X .In i o (tMIn X.K X.w ty td) := by
  refine ⟨fun pins s σ H Q I h => thn (hi.run pins s σ H _ I h) fun iv s1 ⟨y, H1, I1, ry, q1⟩ => thn (ho.run pins s1 σ H1 _ I1 q1) fun u s2 ⟨x, H2, I2, rx, a, ov, ex, g, q2⟩ => ?_⟩
  subst ex
  obtain rfl : u = Value.ref a := rx
  show wpAny _ _ (do return Value.bool (← contains (.ref a) iv)) _ _ s2
  exact wpAny_bind (m_contains hu I2 g ry fun s3 I3 => wpAny_pure ⟨.bl ov.isSome, H2, I3, rfl, q2⟩)
theorem pc_mnotin (hu : X.A.units + 100 < cLine) (hi : PE X i ty) (ho : PE X o td) : PC X .NotIn i o (tMNotIn X.K X.w ty td) := by
  refine ⟨fun pins s σ H Q I h => thn (hi.run pins s σ H _ I h) fun iv s1 ⟨y, H1, I1, ry, q1⟩ => thn (ho.run pins s1 σ H1 _ I1 q1) fun u s2 ⟨x, H2, I2, rx, a, ov, ex, g, q2⟩ => ?_⟩
  subst ex
  obtain rfl : u = Value.ref a := rx
  show wpAny _ _ (do return Value.bool (!(← contains (.ref a) iv))) _ _ s2
  exact wpAny_bind (m_contains hu I2 g ry fun s3 I3 => wpAny_pure ⟨.bl (!ov.isSome), H2, I3, rfl, q2⟩)
theorem ps_mput (hu : X.A.units + 100 < cLine) (ho : PE X o td) (hi : PE X i ty) (hv : PE X value tv) (hs : swapsWith value (some (.Subscript o i pos')) pos.line X.env = pure false) :
    PS X (.Assign [.Subscript o i pos'] value pos) (sMPut X.K X.w td ty tv) := by
  refine ⟨fun pins s σ H D I h => ?_⟩
  refine wpAny_Assign_Subscript (thn (hv.run pins s σ H _ I h) fun r s1 ⟨v, H1, I1, rv, q1⟩ => thn (ho.run pins s1 σ H1 _ I1 q1) fun u s2 ⟨x, H2, I2, rx, q2⟩ => thn (hi.run pins s2 σ H2 _ I2 q2) fun iv s3 ⟨y, H3, I3, ry, a, kvs, k, ex, e, hk, ey, kd, hl, q3⟩ => ?_) hs
  subst ex
  obtain rfl : u = Value.ref a := rx
  exact m_setItem hu I3 e hk ey kd hl ry rv fun s4 I4 => ⟨σ, _, I4, q3⟩
/-- len -/
def rLenM (w : World) : List V → Hp → VK → Prop := fun xs H Q => ∃ (p : Addr) (kvs : MV), xs = [.ref p] ∧ MRd w H p kvs ∧ Q (.int ((kvs.length : Nat) : Int)) H
theorem call_lenM : CallR X (.builtin "len") (rLenM X.w) := by
  intro pins s σ H xs us Q I r h
  obtain ⟨p, kvs, rfl, hp, q⟩ := h
  obtain ⟨u, rfl, rx⟩ := vals1 r
  obtain rfl : u = .ref p := rx
  obtain ⟨z, hd, ys, rel, ob, es, ep, h1, h2, h3, h4, h5⟩ := hp.ph I.hok
  have hl : es.size = kvs.length := by rw [Paired.length rel]; exact ent_size h4
  have hr : s.heap.DictRaw p es ep := ⟨ob, h1, h2, h3⟩
  have hz : ((kvs.length : Nat) : Int) < 2 ^ 63 := by rw [sizeLine_eq] at z; omega
  refine Calls.call_function_entry kind_len plain_len entry_len (args_len1 _) ?_
  unfold Builtin.«len»
  refine wpAny_bind (m := oneArg "len" _) (wpAny_pure ?_)
  refine wpAny_bind (m := callSpecial? (.ref p) (Str.ofString "__len__")) (wpAny_callSpecial?_slot (name := Str.ofString "__len__") hr.typeIs F.slot_dict_len (call_len_raw hd hr ?_))
  rw [hl]
  show wpAny _ _ _ _ _ { s with toks := s.toks + 1 }
  refine wpAny_bind (wpAny_holding (wpAny_pure ?_))
  refine wpAny_bind (wpAny_letGo ?_)
  show wpAny _ _ (if ((kvs.length : Nat) : Int) < 0 then _ else _) _ _ _
  rw [if_neg (by omega)]
  show wpAny _ _ (if ((kvs.length : Nat) : Int) ≥ 2 ^ 63 then _ else _) _ _ _
  rw [if_neg (by omega)]
  exact wpAny_bind (wpAny_mkInt (wpAny_pure ⟨_, rfl, ⟨.int ((kvs.length : Nat) : Int), H, I.tok _, ⟨_, rfl⟩, q⟩⟩))
/-- isinstance -/
def rIsiU (w : World) (K : PySem.W.Frag) : List V → Hp → VK → Prop := fun xs H Q => rIsi K xs H Q ∨ ∃ (a : Addr) (kvs : MV) (c : V) (u : Value) (b : Bool), xs = [.ref a, c] ∧ MRd w H a kvs ∧ ClsV c u ∧ PySem.W.kitOne K (.type "dict") u = some b ∧ Q (.bl b) H
theorem call_isiU : CallR X (.builtin "isinstance") (rIsiU X.w X.K) := by
  intro pins s σ H xs us Q I r h
  rcases h with h | ⟨a, kvs, c, u, b, rfl, m, k, e, q⟩
  · exact call_isi pins s σ H xs us Q I r h
  · obtain ⟨u1, u2, rfl, r1, r2⟩ := vals2 r
    have e2 := k.eq r2
    subst e2
    cases (show u1 = Value.ref a from r1)
    obtain ⟨_, _, ys, _, ob, es, ep, h1, h2, _⟩ := m.ph I.hok
    exact PySem.W.kia_one PySem.W.kitx_dict I.kIn ⟨ob, h1, h2.1⟩ e (fun z => nomatch z) fun tk => ⟨.bl b, H, I.tok tk, rfl, q⟩
end
section
variable {w : World} {K : PySem.W.Frag} {H : Hp} {Q : VK} {x : V} {a : Addr} {kvs : MV}
theorem x_isiM {k T : Kn} (m : MRd w H a kvs) (q : Q (.bl (isB .dict T)) H) (hT : T ≠ .non := by decide) : rIsiU w K [.ref a, .ty T.ty] H Q := .inr ⟨a, kvs, _, _, _, rfl, m, .ty _, kit_ty (kitB_is .dict T hT), q⟩
theorem x_isiMd (m : MRd w H a kvs) (q : Q (.bl true) H) : rIsiU w K [.ref a, .ty "dict"] H Q := x_isiM (k := .non) (T := .dict) m q
theorem x_isiO (q : rIsi K [x, .ty "dict"] H Q) : rIsiU w K [x, .ty "dict"] H Q := .inl q
theorem x_lenM (m : MRd w H a kvs) (q : Q (.int ((kvs.length : Nat) : Int)) H) : rLenM w [.ref a] H Q := ⟨a, kvs, rfl, m, q⟩
end
end Ox

/-! Own layer: dicts with keys of many kinds, walked: for k in d, for k, v in d.items(). -/
namespace Ox
open PySem PySem.Spec PyProof.Rows L2
/-- a dict that is held while it is walked -/
def FzM (w : World) (H : Hp) (d : Addr) (o : Obj) (kvs : MV) : Prop := H d = some (.frz o (dM w d kvs)) ∨ ∃ ks, H d = some (.frz o (.dK ks)) ∧ kvs = ks.map toM
theorem FzM.rd {w : World} {H : Hp} {d : Addr} {o : Obj} {kvs : MV} (h : FzM w H d o kvs) : MRd w H d kvs := h.imp (fun e => .inr ⟨o, e⟩) fun ⟨ks, e, q⟩ => ⟨ks, .inr ⟨o, e⟩, q⟩
section
variable {X : Cx} {pins : List (Addr × Obj)} {σ : L2.St} {H : Hp} {s : Shared} {d : Addr} {o : Obj} {kvs : MV}
theorem frzM (I : Inv X pins σ H s) (h : FzM X.w H d o kvs) : (d == sysModules) = false ∧ s.heap.get? d = some o ∧ o.ExactDict ∧ ∃ (es : Array DictEntry) (ep : Nat), o.data = .dict es ep ∧ es.size = kvs.length ∧
    ∀ (i : Nat) (p : NestedKey × V × V), kvs[i]? = some p → ∃ en, es[i]? = some en ∧ RelV p.2.1 en.key ∧ RelV p.2.2 en.val := by
  have hd : s.heap.get? d = some o := by
    rcases h with h | ⟨ks, h, _⟩
    · exact (I.hok d _ h).1
    · exact (I.hok d _ h).1
  obtain ⟨_, hs, xs, rel, o', es, ep, ho, hx, hdt, he, _⟩ := h.rd.ph I.hok
  rw [hd] at ho
  cases ho
  refine ⟨hs, hd, hx, es, ep, hdt, by rw [Paired.length rel]; exact ent_size he, fun i p e => ?_⟩
  obtain ⟨x, hx, e1, e2, e3⟩ := paired_get rel e
  have q := ent_at he i
  rw [hx] at q
  exact ⟨_, q, e2, e3⟩
end
/-- the keys -/
def Itkm (w : World) (d : Addr) (o : Obj) (kvs : MV) : It :=
  ⟨fun i H => FzM w H d o kvs ∧ i < kvs.length, fun i H x H' => H' = H ∧ ∃ p, kvs[i]? = some p ∧ x = p.2.1, fun i H => FzM w H d o kvs ∧ kvs.length ≤ i⟩
/-- the pairs, each a new tuple -/
def Itim (w : World) (d : Addr) (o : Obj) (kvs : MV) : It :=
  ⟨fun i H => FzM w H d o kvs ∧ i < kvs.length, fun i H x H' => ∃ T p, kvs[i]? = some p ∧ x = .ref T ∧ H T = none ∧ H' = upd H T (.tup [p.2.1, p.2.2]), fun i H => FzM w H d o kvs ∧ kvs.length ≤ i⟩
section
variable {P : Program} {w : World} {K : PySem.W.Frag} {tg : Expr} {d : Addr} {o : Obj} {es : Array DictEntry} {ep : Nat}
theorem turn_keysM {kvs : MV} (it : Addr) (hod : o.data = .dict es ep) : Turn P w K tg (Itkm w d o kvs) [it] it (fun i h => h.IsKeyIter it d i kvs.length ep) where
  mem := by simp
  obj := fun i h st b hb => by
    have e : b = it := by simpa using hb
    subst e
    obtain ⟨oi, e, c, dd⟩ := st
    exact ⟨oi, e, fun v z => by rw [dd] at z; cases z⟩
  keep := fun i h h' st k => st.at fun oi e => k it (by simp) oi e
  item := by
    intro X hP hw hK hc i pins s σ H E I hf st hg
    subst hP hw hK
    obtain ⟨hd, hi⟩ := hg
    obtain ⟨f0, f1, f2, f3, f4, f5⟩ := hf it (by simp)
    obtain ⟨hs, hgd, hx, es', ep', hdt, hsz, ent⟩ := frzM I hd
    obtain ⟨rfl, rfl⟩ := dict_ep hod hdt
    obtain ⟨p, hkv⟩ : ∃ p, kvs[i]? = some p := ⟨kvs[i], List.getElem?_eq_getElem hi⟩
    obtain ⟨en, hen, hkey, _⟩ := ent i p hkv
    refine next_key_item st hgd hdt hsz hen fun h' st' sb => ?_
    have I1 : Inv X pins σ H { s with heap := h' } := I.turned (t' := s.toks) (fun b ob hb e => (sb.2 b hb).trans e) f0 f1 f3 f4 f5
    obtain ⟨oi, e, c, dd⟩ := id st'
    exact ⟨en.key, rfl, go_of (s := { s with heap := h' }) e c dd (by decide) ⟨p.2.1, H, I1, hkey, ⟨rfl, p, hkv, rfl⟩, st', fun b hb => (hf b hb).1⟩⟩
  done := by
    intro X hP hw hK hc i pins s σ H E I hf st hg
    subst hP hw hK
    obtain ⟨hd, hi⟩ := hg
    obtain ⟨f0, f1, f2, f3, f4, f5⟩ := hf it (by simp)
    obtain ⟨hs, hgd, hx, es', ep', hdt, hsz, ent⟩ := frzM I hd
    obtain ⟨rfl, rfl⟩ := dict_ep hod hdt
    exact next_key_end (I.ok.hd hc) st hgd hdt hsz hi fun h' eb => ⟨rfl, I.turned (t' := s.toks) (fun b ob hb e => eb b ob hb e) f0 f1 f3 f4 f5⟩
  self := fun A i s Q E st h => wpAny_pyIter_keyiter st h
theorem turn_itemsM {kvs : MV} {elts : List Expr} {kk : Nat} {tpos : Pos} (it : Addr) (hod : o.data = .dict es ep) :
    Turn P w K (.Tuple elts kk tpos) (Itim w d o kvs) [it] it (fun i h => ∃ ok ov, IsItemIter h it d i kvs.length ep ok ov) where
  mem := by simp
  obj := fun i h st b hb => by
    have e : b = it := by simpa using hb
    subst e
    obtain ⟨ok, ov, e⟩ := st
    exact ⟨_, e, fun v z => nomatch z⟩
  keep := fun i h h' st k => let ⟨ok, ov, e⟩ := st; ⟨ok, ov, k it (by simp) _ e⟩
  item := by
    intro X hP hw hK hc i pins s σ H E I hf st hg
    subst hP hw hK
    obtain ⟨hd, hi⟩ := hg
    obtain ⟨hs, hgd, hx, es', ep', hdt, hsz, ent⟩ := frzM I hd
    obtain ⟨rfl, rfl⟩ := dict_ep hod hdt
    obtain ⟨p, hkv⟩ : ∃ p, kvs[i]? = some p := ⟨kvs[i], List.getElem?_eq_getElem hi⟩
    obtain ⟨en, hen, hkey, hval⟩ := ent i p hkv
    obtain ⟨ok, ov, he⟩ := st
    have hi' : i < es'.size := by rw [hsz]; exact hi
    have een : es'[i] = en := by rw [Array.getElem?_eq_getElem hi'] at hen; exact Option.some.inj hen
    rw [← hsz] at he
    have hlt : it < s.heap.objs.size := Heap.lt_size he
    refine wpAny_pyNext_items_item_raw he ⟨o, hgd, hx, hdt⟩ hi' fun h' ho hT hz hk => ?_
    refine ⟨_, rfl, wpAny_letOwnedTupleGo_items (s := { s with heap := h' }) ho fun h'' he' sb => ?_⟩
    have hT2 : h''.get? s.heap.objs.size = some { cls := .type "tuple", data := .seq #[es'[i].key, es'[i].val] } := (sb.2 _ (Nat.ne_of_gt hlt)).trans hT
    have new : ObjOk X.prog X.w (upd H s.heap.objs.size (.tup [p.2.1, p.2.2])) h'' s.heap.objs.size (.tup [p.2.1, p.2.2]) :=
      ⟨by show 2 ≤ sizeLine; decide, [es'[i].key, es'[i].val], .cons (by rw [een]; exact hkey) (.cons (by rw [een]; exact hval) .nil), ⟨_, hT2, rfl, _, rfl⟩⟩
    have I1 : Inv X pins σ (upd H s.heap.objs.size (.tup [p.2.1, p.2.2])) { s with heap := h'' } :=
      I.turnedNew (t' := s.toks) (ch := [it]) (fun b ob hb e => (sb.2 b (by simpa using hb)).trans (hk b ob (by simpa using hb) e)) hf (Nat.le_refl _) new
    refine ⟨.ref s.heap.objs.size, _, I1, rfl, ⟨_, p, hkv, rfl, I.hok.fresh (Nat.le_refl _), rfl⟩, ⟨es'[i].key, es'[i].val, ?_⟩, fun b hb => ?_⟩
    · rw [← hsz]; exact he'
    · have e : b = it := by simpa using hb
      rw [e, upd_ne (Nat.ne_of_lt hlt)]
      exact (hf it (by simp)).1
  done := by
    intro X hP hw hK hc i pins s σ H E I hf st hg
    subst hP hw hK
    obtain ⟨hd, hi⟩ := hg
    obtain ⟨f0, f1, f2, f3, f4, f5⟩ := hf it (by simp)
    obtain ⟨hs, hgd, hx, es', ep', hdt, hsz, ent⟩ := frzM I hd
    obtain ⟨rfl, rfl⟩ := dict_ep hod hdt
    obtain ⟨ok, ov, he⟩ := st
    rw [← hsz] at he
    exact wpAny_pyNext_items_end_raw (I.ok.hd hc) he ⟨o, hgd, hx, hdt⟩ (by rw [hsz]; exact hi) fun h' eb => ⟨rfl, I.turned (t' := s.toks) (fun b ob hb e => eb b ob hb e) f0 f1 f3 f4 f5⟩
  self := fun A i s Q E st h => let ⟨_, _, e⟩ := st; PySem.W.kcp_self e h
end
/-! ### for k in d, for k, v in d.items() -/
def iKeysU (w : World) (td : TE) : TI := fun σ H R => td σ H fun x H1 => ∃ d o kvs, x = .ref d ∧ FzM w H1 d o kvs ∧ R (Itkm w d o kvs) H1
def iItemsU (w : World) (td : TE) : TI := fun σ H R => td σ H fun x H1 => ∃ d o kvs, x = .ref d ∧ FzM w H1 d o kvs ∧ R (Itim w d o kvs) H1
section
variable {X : Cx} {tg e : Expr} {td : TE} {apos cpos : Pos}
theorem pi_keysU (he : PE X e td) : PI X tg e (iKeysU X.w td) := by
  refine ⟨fun pins s σ H R I h => ?_⟩
  refine thn (he.run pins s σ H _ I h) fun u s1 ⟨x, H1, I1, rx, d, o, kvs, ex, hd, q⟩ => ?_
  subst ex
  obtain rfl : u = Value.ref d := rx
  obtain ⟨hs, hgd, hx, es, ep, hdt, hsz, ent⟩ := frzM I1 hd
  refine iter_keys hs hgd hx hdt (pi_one (tk := s1.toks) I1 _ (turn_keysM _ hdt) ⟨_, Heap.get?_push_size _ rfl, rfl, ?_⟩ q)
  rw [hsz] <;> rfl
theorem pi_itemsU {elts : List Expr} {kk : Nat} {tpos : Pos} (he : PE X e td) (hbase : attributeBase e "items" X.env (eval e X.env) = eval e X.env := by rfl) (hline : (apos.endLine == cpos.line) = true := by rfl) :
    PI X (.Tuple elts kk tpos) (.Call (.Attribute e "items" apos) [] [] cpos) (iItemsU X.w td) := by
  refine ⟨fun pins s σ H R I h => ?_⟩
  refine wpAny_Call_method (T := "dict") (id := "dict.items") hbase rfl hline F.plainAttrs_dict F.slot_dict_items F.type_dict_items (thn (he.run pins s σ H _ I h) fun u s1 ⟨x, H1, I1, rx, d, o, kvs, ex, hd, q⟩ => ?_)
  subst ex
  obtain rfl : u = Value.ref d := rx
  obtain ⟨hs, hgd, hx, es, ep, hdt, hsz, ent⟩ := frzM I1 hd
  have hm : s1.heap.DictRaw d es ep := ⟨o, hgd, hx, hdt⟩
  refine ⟨hm.typeIs, (fun b q => by cases q; exact ⟨o, hgd, hx.2.1⟩), ?_⟩
  have I2 : Inv X pins σ H1 { s1 with heap := s1.heap.push { cls := .type "dict_items", data := .fields #[.ref d] } } := I1.kept (t' := s1.toks) fun b ob q => Heap.get?_push_of_some _ q
  have fin : wpAny (model X.prog X.w) X.A (pyIter (.ref s1.heap.objs.size)) (PIE X pins σ (.Tuple elts kk tpos) R) X.xe { s1 with heap := s1.heap.push { cls := .type "dict_items", data := .fields #[.ref d] } } := by
    refine wpAny_pyIter_items_raw (d := d) ⟨_, Heap.get?_push_size _ rfl, rfl, rfl⟩ (hm.push _) (pi_one (tk := s1.toks) I2 _ (turn_itemsM _ hdt) ⟨.none, .none, ?_⟩ q)
    rw [hsz]
    exact Heap.get?_push_size _ rfl
  show wpAny _ _ (callWith cpos (.builtin "dict.items") [.ref d] [] []) _ X.xe s1
  exact method_meetsIn F.slot_dict_items F.entry_dict_items rfl (PySem.evalArgs_none ⟨rfl, hm.typeIs, F.args_dict_items_1 _, _, meets_dict_items_raw d hs, ⟨es, ep, hm⟩, fin⟩)
end
section
variable {w : World} {d p : Addr} {o : Obj} {kvs : MV} {g : TG} {tb : TS} {σ : L2.St} {H : Hp} {n : L2.St → Hp → Prop} {r : VK} {b c : L2.St → Hp → Prop} {te : TE} {K : PySem.W.Frag}
theorem walk_keysM : L2.Walk (Itkm w d o kvs) kvs.length (fun H => FzM w H d o kvs) (fun i H x H' => H' = H ∧ ∃ p, kvs[i]? = some p ∧ x = p.2.1) :=
  ⟨fun _ _ hi q => ⟨q, hi⟩, fun _ q => ⟨q, Nat.le_refl _⟩, fun _ _ _ _ _ _ y => y⟩
theorem walk_itemsM : L2.Walk (Itim w d o kvs) kvs.length (fun H => FzM w H d o kvs) (fun i H x H' => ∃ T p, kvs[i]? = some p ∧ x = .ref T ∧ H T = none ∧ H' = upd H T (.tup [p.2.1, p.2.2])) :=
  ⟨fun _ _ hi q => ⟨q, hi⟩, fun _ q => ⟨q, Nat.le_refl _⟩, fun _ _ _ _ _ _ y => y⟩
def LpKU (w : World) (g : TG) (tb : TS) (D : Ends) (σ : L2.St) (x : V) (H : Hp) : Prop := ∃ d o kvs, x = .ref d ∧ FzM w H d o kvs ∧ Lp (Itkm w d o kvs) g tb D σ H
def LpIU (w : World) (g : TG) (tb : TS) (D : Ends) (σ : L2.St) (x : V) (H : Hp) : Prop := ∃ d o kvs, x = .ref d ∧ FzM w H d o kvs ∧ Lp (Itim w d o kvs) g tb D σ H
theorem x_forKU (h : te σ H fun x H1 => LpKU w g tb ⟨n, r, b, c⟩ σ x H1) : tFor (iKeysU w te) g tb ⟨n, r, b, c⟩ σ H := h
theorem x_forIU (h : te σ H fun x H1 => LpIU w g tb ⟨n, r, b, c⟩ σ x H1) : tFor (iItemsU w te) g tb ⟨n, r, b, c⟩ σ H := h
theorem lpKU (Pv : Nat → L2.St → Hp → Prop) (h : FzM w H p o kvs) (h0 : Pv 0 σ H) (hG : ∀ i σ H, i ≤ kvs.length → Pv i σ H → FzM w H p o kvs)
    (hs : ∀ i q σ H, kvs[i]? = some q → Pv i σ H → g q.2.1 σ H fun σ2 H2 => tb ⟨Pv (i + 1), r, n, Pv (i + 1)⟩ σ2 H2) (hd : ∀ σ H, Pv kvs.length σ H → n σ H) : LpKU w g tb ⟨n, r, b, c⟩ σ (.ref p) H :=
  ⟨p, o, kvs, rfl, h, lp_by walk_keysM Pv h0 hG (fun i x σ H H' _ hp y => by
    obtain ⟨rfl, q, e, rfl⟩ := y
    exact hs i q σ _ e hp) hd⟩
theorem lpIU (Pv : Nat → L2.St → Hp → Prop) (h : FzM w H p o kvs) (h0 : Pv 0 σ H) (hG : ∀ i σ H, i ≤ kvs.length → Pv i σ H → FzM w H p o kvs)
    (hs : ∀ i q σ H T, kvs[i]? = some q → Pv i σ H → H T = none → g (.ref T) σ (upd H T (.tup [q.2.1, q.2.2])) fun σ2 H2 => tb ⟨Pv (i + 1), r, n, Pv (i + 1)⟩ σ2 H2) (hd : ∀ σ H, Pv kvs.length σ H → n σ H) : LpIU w g tb ⟨n, r, b, c⟩ σ (.ref p) H :=
  ⟨p, o, kvs, rfl, h, lp_by walk_itemsM Pv h0 hG (fun i x σ H H' _ hp y => by
    obtain ⟨T, q, e, rfl, hT, rfl⟩ := y
    exact hs i q σ _ T e hp hT) hd⟩
/-- a dict to be walked: what it is held as -/
theorem x_lockM {t : TS} (h : MWr w H d kvs) (q : ∀ od u, H d = some u → Mut (some u) → FzM w (upd H d (.frz od u)) d od kvs → t ⟨fun σ' H' => H' d = some (.frz od u) ∧ n σ' (upd H' d u), fun v H' => H' d = some (.frz od u) ∧ r v (upd H' d u), fun σ' H' => H' d = some (.frz od u) ∧ b σ' (upd H' d u), fun σ' H' => H' d = some (.frz od u) ∧ c σ' (upd H' d u)⟩ σ (upd H d (.frz od u))) :
    tLock t ⟨n, r, b, c⟩ σ H := by
  rcases h with h | ⟨ks, h, e⟩
  · exact x_lock h trivial fun od => q od _ h trivial (.inl upd_same)
  · exact x_lock h trivial fun od => q od _ h trivial (.inr ⟨ks, upd_same, e⟩)
theorem x_lockME {Q : VK} (h : MWr w H d kvs) (q : ∀ od u, H d = some u → Mut (some u) → FzM w (upd H d (.frz od u)) d od kvs → te σ (upd H d (.frz od u)) fun v H' => H' d = some (.frz od u) ∧ Q v (upd H' d u)) : tLockE te σ H Q := by
  rcases h with h | ⟨ks, h, e⟩
  · exact x_lockE h trivial fun od => q od _ h trivial (.inl upd_same)
  · exact x_lockE h trivial fun od => q od _ h trivial (.inr ⟨ks, upd_same, e⟩)
end
end Ox
namespace Ox
open PySem PySem.Spec PyProof.Rows L2
/-! ### a class whose __init__ may raise, called -/
section
variable (P : Program) (w : World) (K : PySem.W.Frag) (mg : Str → Option Value) (base : Heap)
structure MkcX (C : Addr) (k : Nat) (x : Str) (ps : List Str) (sp : Sp) : Prop where
  ex : ∃ f fd, Mk K C f ∧ FnOk P w K mg base (L2.CX P w) k f fd ps sp ∧ mg x = some (.ref C) ∧ Binds K fd ps []
end
def tMakeS (C : Addr) (sp : Sp) (E : L2.St → XK) (t : TA) : TE := fun σ H Q => tMake C sp [] (E σ) t σ H Q
section
variable {X : Cx} {k : Nat} {x : Str} {ps : List Str} {sp : Sp} {e : Expr} {es : List Expr} {t : TA} {pos p : Pos} {W : WX} {C : Addr}
theorem run_makeS {CX : CXT} {f : Addr} {fd : FuncData} {E : XK} {pins : List (Addr × Obj)} {σ : L2.St} {H : Hp} {s : Shared} {Q : VK} {us ds : List Value} {vs dvs : List V} (M : Mk X.K C f) (F : FnOk X.prog X.w X.K X.mg X.base CX k f fd ps sp) (hr : Room (k + 1) X.A) (hb : Binds X.K fd ps ds) (hd : Vals dvs ds)
    (hx : PassesAt CX X σ E) (I : Inv X pins σ H s) (r : Vals vs us)
    (h : ∀ x dx, H x = none → H dx = none → dx ≠ x → sp (.ref x :: (vs ++ dvs)) (upd (upd H dx (.own x)) x (.ins C dx [])) (fun v H2 => v = .non ∧ Q (.ref x) H2) E) :
    wpAny (model X.prog X.w) X.A (call (.ref C) us) (EP X pins σ Q) X.xe s := by
  have new := h (s.heap.objs.size + 1) s.heap.objs.size (I.hok.fresh (Nat.le_succ _)) (I.hok.fresh (Nat.le_refl _)) (Nat.ne_of_lt (Nat.lt_succ_self _))
  have J := Inv.made (C := C) I
  have args : Vals (V.ref (s.heap.objs.size + 1) :: (vs ++ dvs)) (Value.ref (s.heap.objs.size + 1) :: (us ++ ds)) := .cons rfl (r.append hd)
  have many : (Value.ref (s.heap.objs.size + 1) :: us ++ ds).length = ps.length := by
    have e := args.length
    rw [F.len _ _ _ _ new] at e
    exact e.symm
  refine wpAny_call (make_map (f := f) I.kIn M.makes M.init (beq_iff_eq.mp M.fn) (codeAny_mono (F.run _ X.stack _ _ ⟨Value.ref (s.heap.objs.size + 1) :: us, []⟩ (Value.ref (s.heap.objs.size + 1) :: (us ++ ds)) _ _ E (hr.make C us [])
    (J.env0.make C us []) (hb _ (Value.ref (s.heap.objs.size + 1) :: us) J.kIn many) args new) fun r s' out => ?_))
  cases r with
  | error e => exact hx pins _ _ e s' J out
  | ok fl =>
    cases fl with
    | ret u =>
      obtain ⟨v, H', J2, rv, ev, q3⟩ := J.after out
      subst ev
      exact ⟨rv, ⟨V.ref (s.heap.objs.size + 1), H', J2, rfl, q3⟩⟩
    | next => exact False.elim out
    | brk => exact False.elim out
    | cont => exact False.elim out
theorem pe_mkX (c : MkcX X.prog X.w X.K X.mg X.base C k x ps sp) (hr : Room (k + 1) X.A) (hg : Gl X x) (tk : Takes X W) (ha : PA X (e :: es) t)
    (hs : starEach (e :: es) X.env = (false, eval e X.env) :: starEach es X.env := by rfl) (hp : (backTo pos (starEach es X.env)).any (·.1) = false := by rfl)
    (hdb : (x == ("__debug__" : Str)) = false := by decide) : PE X (.Call (.Name x p) (e :: es) [] pos) (tMakeS C sp (WE W) t) := by
  obtain ⟨f, fd, M, F, g, b⟩ := c.ex
  refine ⟨fun pins s σ H Q I h => ?_⟩
  refine wpAny_Call_Name_kw (ld_glob I hg g ?_ hdb)
  refine PySem.W.callWith_K (h₀ := X.base) I.ok.mod.kin M.kp (thn (ha.run pos pins s σ H _ I h) fun us s1 ⟨vs, H1, I1, r, q⟩ => ⟨I1.kIn, ?_⟩) hs hp
  exact run_makeS M F hr b .nil (passAt tk σ) I1 r q
theorem x_mkS {σ : L2.St} {H : Hp} {Q : VK} (q : t σ H fun vs H1 => ∀ x dx, H1 x = none → H1 dx = none → dx ≠ x → sp (.ref x :: (vs ++ [])) (upd (upd H1 dx (.own x)) x (.ins C dx [])) (fun v H2 => v = .non ∧ Q (.ref x) H2) (WE W σ)) : tMakeS C sp (WE W) t σ H Q := q
end
/-- a store by either rule: the dict's own, or as one of many kinds of keys -/
def sMDPut (K : PySem.W.Frag) (w : World) (td ty tv : TE) : TS := fun D σ H => tv σ H fun v H1 => td σ H1 fun x H2 => ty σ H2 fun y H3 => (∃ a H4, x = .ref a ∧ DPut H3 a y v H4 ∧ D.nx σ H4) ∨
  ∃ a kvs k, x = .ref a ∧ MWr w H3 a kvs ∧ KeysOk K H3 kvs ∧ KeyV K H3 k y ∧ k.depth ≤ 8 ∧ kvs.length < sizeLine ∧ D.nx σ (upd H3 a (dM w a (putM kvs k y v)))
theorem ps_mdput {X : Cx} {o i value : Expr} {pos pos' : Pos} {td ty tv : TE} (hu : X.A.units + 100 < cLine) (ho : PE X o td) (hi : PE X i ty) (hv : PE X value tv) (hs : swapsWith value (some (.Subscript o i pos')) pos.line X.env = pure false) :
    PS X (.Assign [.Subscript o i pos'] value pos) (sMDPut X.K X.w td ty tv) := by
  refine ⟨fun pins s σ H D I h => ?_⟩
  refine wpAny_Assign_Subscript (thn (hv.run pins s σ H _ I h) fun r s1 ⟨v, H1, I1, rv, q1⟩ => thn (ho.run pins s1 σ H1 _ I1 q1) fun u s2 ⟨x, H2, I2, rx, q2⟩ => thn (hi.run pins s2 σ H2 _ I2 q2) fun iv s3 ⟨y, H3, I3, ry, q3⟩ => ?_) hs
  rcases q3 with ⟨a, H4, ex, g, q3⟩ | ⟨a, kvs, k, ex, e, hk, ey, kd, hl, q3⟩
  · subst ex
    obtain rfl : u = Value.ref a := rx
    exact d_setItem (by omega) I3 g ry rv fun s4 I4 => ⟨σ, _, I4, q3⟩
  · subst ex
    obtain rfl : u = Value.ref a := rx
    exact m_setItem hu I3 e hk ey kd hl ry rv fun s4 I4 => ⟨σ, _, I4, q3⟩
/-- list(d): the keys, in their order -/
def rListDM (w : World) : List V → Hp → VK → Prop := fun xs H Q => ∃ (d : Addr) (kvs : MV), xs = [.ref d] ∧ MRd w H d kvs ∧ ∀ p, H p = none → Q (.ref p) (upd H p (.lst (kvs.map (·.2.1))))
theorem call_list_dM {X : Cx} (hc : X.calm = true) : CallR X (.type "list") (rListDM X.w) := by
  intro pins s σ H xs us Q I r h
  obtain ⟨d, kvs, rfl, hd, q⟩ := h
  obtain ⟨u, rfl, rx⟩ := r.one
  cases rx
  obtain ⟨z, hs, ks, pr, o, es, ep, ho, hx, hdt, he, hn⟩ := hd.ph I.hok
  have l1 : es.size = ks.length := ent_size he
  have l2 : kvs.length = ks.length := Paired.length pr
  refine PySem.W.kdl_call (kdl_raw hs hx hdt) (I.ok.hd hc) ho (by omega) fun h' tk acc' c' kp e it => ?_
  have ea : acc'.toList = ks.map fun x => x.2.1 := by
    have hl : acc'.toList.length = ks.length := by rw [Array.length_toList, it.1]; exact l1
    apply List.ext_getElem?
    intro j
    rw [List.getElem?_map]
    cases hj : acc'.toList[j]? with
    | none =>
      have h1 := List.getElem?_eq_none_iff.mp hj
      rw [List.getElem?_eq_none (by omega)]
      all_goals rfl
    | some v =>
      obtain ⟨en, hen, hv⟩ := it.2 j v (by rw [← Array.getElem?_toList]; exact hj)
      have qe := ent_at he j
      rw [hen] at qe
      cases hk : ks[j]? with
      | none => rw [hk] at qe; cases qe
      | some x =>
        rw [hk] at qe
        have e2 : en = entM X.w x := Option.some.inj qe
        rw [hv, e2]
        all_goals rfl
  have rv : Vals (kvs.map (·.2.1)) acc'.toList := by
    rw [ea]
    clear q l2 hd it ea hn he l1 z
    induction pr with
    | nil => exact .nil
    | cons h t ih => exact .cons h.2.1 ih
  have hz : (kvs.map (·.2.1)).length ≤ sizeLine := by rw [List.length_map]; omega
  refine ⟨.ref s.heap.objs.size, _, I.laid (t' := tk) (o := .lst (kvs.map (·.2.1))) kp (Nat.le_refl _) ?_, rfl, q _ (I.hok.fresh (Nat.le_refl _))⟩
  exact ⟨hz, acc'.toList, c', rv, by rw [Array.toArray_toList]; exact e⟩
end Ox

/-! Own hook, second form: beside defs, __init__s that say super(). -/
namespace Oh
open PySem PySem.Spec PyProof.Rows L2
/-- the text of such an __init__ -/
def IsSup (st : Stmt) (y : Str) : Prop := ∃ (txt : Str) (p1 p2 q1 q2 q3 q4 q5 q6 q7 q8 q9 q10 : Pos), defArgs st = PySem.SupX.iA y p1 p2 ∧ defBody st = PySem.SupX.iB y txt q1 q2 q3 q4 q5 q6 q7 q8 q9 q10 ∧ defScope st = PySem.SupX.iS y ∧ (q3.endLine == q5.line) = true
theorem Sd.fn_ {d : Sd} {file : Str} {K : Frag} {P : Program} (s : IsSup d.st d.fld) (e : d.fnd K = d.due) (g : d.good file K = true) (hf : (P.main.file == file) = true) :
    ∃ (oc : Value) (od : Option Addr) (kV doc pm : Value) (an : Option Addr) (cda : Addr) (ct : Value) (osl : Array (Option Value)) (qual txt : Str) (cc : Addr) (p1 p2 q1 q2 q3 q4 q5 q6 q7 q8 q9 q10 : Pos),
    K.lookup (d.spot K) = some ⟨oc, od, .func (PySem.W.ksFn "__init__" qual (PySem.SupX.iA d.fld p1 p2) (PySem.SupX.iB d.fld txt q1 q2 q3 q4 q5 q6 q7 q8 q9 q10) (PySem.SupX.iS d.fld) .none kV doc pm an (.ref cda) ct cc), osl⟩ ∧ PySem.W.codeIn K (.ref cda) qual = true ∧
    (∃ (ccl : Value) (cdd : Option Addr) (vs : Array Value) (ccs : Array (Option Value)) (file : Str) (tf : Tok), K.lookup cda = some ⟨ccl, cdd, .fields vs, ccs⟩ ∧ vs[2]? = some (.str file tf) ∧ ((P.main.file : Str) == file) = true) ∧
    (∃ (cl : Value) (cld : Option Addr) (csl : Array (Option Value)), K.lookup cc = some ⟨cl, cld, .cell (some (.ref (He.ga K d.cls))), csl⟩) ∧ (q3.endLine == q5.line) = true := by
  obtain ⟨txt, p1, p2, q1, q2, q3, q4, q5, q6, q7, q8, q9, q10, e1, e2, e3, hl⟩ := s
  unfold Sd.fnd at e
  unfold Sd.good at g
  cases q : K.lookup (d.spot K) with
  | none => rw [q] at g; cases g
  | some o =>
    obtain ⟨oc, od, dt, osl⟩ := o
    rw [q] at e g
    cases dt with
    | func fd =>
      obtain ⟨n1, n2, n3, n4, n5, n6, n7, n8, n9, n10, n11, n12, n13, n14, n15⟩ := fd
      have e4 : (some (n1, n2, n3, n4, n5, n6, [], n15) : He.FnW) = (some ("__init__", d.qual, defArgs d.st, .stmts (defBody d.st), defScope d.st, mainGlobals, [], builtinsNs) : He.FnW) := e
      have g2 : (cellB K (He.ga K d.cls) n7 && (fileB K file n13 && (PySem.W.codeIn K n13 d.qual && isNon n8))) = true := g
      obtain ⟨g3, g4⟩ := Bool.and_eq_true_iff.mp g2
      obtain ⟨g5, g6⟩ := Bool.and_eq_true_iff.mp g4
      obtain ⟨g7, g8⟩ := Bool.and_eq_true_iff.mp g6
      have e8 : n8 = .none := by
        cases n8 with
        | none => rfl
        | _ => cases g8
      rw [e1, e2, e3] at e4
      simp only [Option.some.injEq, Prod.mk.injEq] at e4
      obtain ⟨h1, h2, h3, h4, h5, h6, _, h8⟩ := e4
      obtain ⟨cc, ec, cl, cld, csl, hcc⟩ : ∃ cc, n7 = [(("__class__" : Str), cc)] ∧ ∃ (cl : Value) (cld : Option Addr) (csl : Array (Option Value)), K.lookup cc = some ⟨cl, cld, .cell (some (.ref (He.ga K d.cls))), csl⟩ := by
        unfold cellB at g3
        split at g3
        · rename_i n cc
          obtain ⟨a, b⟩ := Bool.and_eq_true_iff.mp g3
          refine ⟨cc, by rw [of_decide_eq_true a], ?_⟩
          split at b
          · rename_i o ho
            obtain ⟨o1, o2, o3, o4⟩ := o
            split at b
            · rename_i D hD
              have hD' : o3 = .cell (some (.ref D)) := hD
              have := of_decide_eq_true b
              subst this
              subst hD'
              exact ⟨_, _, _, ho⟩
            · cases b
          · cases b
        · cases g3
      obtain ⟨cda, ecda, ccl, cdd, vs, ccs, f, tf, hcda, hvs, hff⟩ : ∃ cda, n13 = .ref cda ∧ ∃ (ccl : Value) (cdd : Option Addr) (vs : Array Value) (ccs : Array (Option Value)) (f : Str) (tf : Tok), K.lookup cda = some ⟨ccl, cdd, .fields vs, ccs⟩ ∧ vs[2]? = some (.str f tf) ∧ f = file := by
        unfold fileB at g5
        split at g5
        · rename_i cda
          split at g5
          · rename_i o ho
            obtain ⟨o1, o2, o3, o4⟩ := o
            split at g5
            · rename_i vs hv
              have hv' : o3 = .fields vs := hv
              subst hv'
              split at g5
              · rename_i f tf hx
                exact ⟨cda, rfl, _, _, _, _, f, tf, ho, hx, of_decide_eq_true g5⟩
              · cases g5
            · cases g5
          · cases g5
        · cases g5
      subst h1 h2 h3 h4 h5 h6 h8 e8 ec ecda hff
      exact ⟨oc, od, n9, n10, n11, n12, cda, n14, osl, d.qual, txt, cc, p1, p2, q1, q2, q3, q4, q5, q6, q7, q8, q9, q10, rfl, g7, ⟨ccl, cdd, vs, ccs, f, tf, hcda, hvs, hf⟩, ⟨cl, cld, csl, hcc⟩, hl⟩
    | _ => cases g
theorem oexB_ok {K : Frag} {C : Addr} (q : oexB K C = true) : ∃ nm q N bs bm sn sub ab col dd k0 k1 k2 k3 k5, K.lookup C = some (excClassObj nm q C N bs bm true sn sub ab col dd k0 k1 k2 k3 k5 "ValueError.__new__") ∧ PySem.HandSPX.refsVE bm = true := by
  unfold oexB at q
  split at q
  · rename_i dd cd sl ho
    split at q
    · rename_i C' bm k0 k1 k2 k3 n k5 hm hs
      simp only [Bool.and_eq_true, beq_iff_eq, Bool.not_eq_true'] at q
      obtain ⟨⟨⟨⟨rfl, rfl⟩, hdel⟩, hdi⟩, ht⟩ := q
      obtain ⟨nm, bs, mro, ns, qn, hd, sn, sub, ab, col, del⟩ := cd
      dsimp only at hm hdel hdi
      subst hm hdel hdi
      have hsl : sl = #[k0, k1, k2, k3, some (.builtin "ValueError.__new__"), k5] := by
        obtain ⟨l⟩ := sl
        simp only at hs
        rw [hs]
      subst hsl
      exact ⟨nm, qn, ns, bs, bm, sn, sub, ab, col, dd, k0, k1, k2, k3, k5, ho, ht⟩
    · cases q
  · cases q
/-- what a law's head gives -/
theorem supB_ok {x y : Str} {K : Frag} {mg : Str → Option Value} {P : Program} {file : Str} {d : Sd} (hb : supB x y K = true) (gC : mg x = some (.ref (He.ga K x))) (noS : mg "super" = none) (top : (P.main.scope.names.lookup ("super" : Str)).isSome = false) (hf : (P.main.file == file) = true)
    (f : PySem.SupX.Fld y) (ec : d.cls = x) (ey : d.fld = y) (s : IsSup d.st d.fld) (e : d.fnd K = d.due) (g : d.good file K = true) : Ox.ExcF P K mg x y (He.ga K x) := by
  subst ec ey
  obtain ⟨h1, h⟩ := Bool.and_eq_true_iff.mp hb
  obtain ⟨h2, h⟩ := Bool.and_eq_true_iff.mp h
  obtain ⟨h3, h⟩ := Bool.and_eq_true_iff.mp h
  obtain ⟨h4, h⟩ := Bool.and_eq_true_iff.mp h
  obtain ⟨h5, h⟩ := Bool.and_eq_true_iff.mp h
  obtain ⟨h6, h⟩ := Bool.and_eq_true_iff.mp h
  obtain ⟨h7, h⟩ := Bool.and_eq_true_iff.mp h
  obtain ⟨h8, h⟩ := Bool.and_eq_true_iff.mp h
  obtain ⟨h9, h⟩ := Bool.and_eq_true_iff.mp h
  obtain ⟨h10, h⟩ := Bool.and_eq_true_iff.mp h
  obtain ⟨h11, h⟩ := Bool.and_eq_true_iff.mp h
  obtain ⟨h12, h⟩ := Bool.and_eq_true_iff.mp h
  obtain ⟨h13, h⟩ := Bool.and_eq_true_iff.mp h
  obtain ⟨h14, h15⟩ := Bool.and_eq_true_iff.mp h
  exact ⟨_, f, gC, noS, oexB_ok h1, He.eqO_ok h2, He.eqO_ok h3, He.eqO_ok h4, He.eqO_ok h5, He.eqO_ok h6, of_decide_eq_true h7, h8, of_decide_eq_true h9, of_decide_eq_true h10, of_decide_eq_true h11, of_decide_eq_true h12, h13, He.eqO_ok h14, He.eqO_ok h15, top, Sd.fn_ s e g hf⟩
theorem supB_g {x y : Str} {K : Frag} (hb : supB x y K = true) : Ox.ExcG K (He.ga K x) y := by
  obtain ⟨h1, h⟩ := Bool.and_eq_true_iff.mp hb
  obtain ⟨h2, h⟩ := Bool.and_eq_true_iff.mp h
  obtain ⟨h3, h⟩ := Bool.and_eq_true_iff.mp h
  obtain ⟨h4, h⟩ := Bool.and_eq_true_iff.mp h
  obtain ⟨h5, h⟩ := Bool.and_eq_true_iff.mp h
  obtain ⟨h6, h⟩ := Bool.and_eq_true_iff.mp h
  obtain ⟨h7, h⟩ := Bool.and_eq_true_iff.mp h
  obtain ⟨h8, h⟩ := Bool.and_eq_true_iff.mp h
  obtain ⟨h9, h⟩ := Bool.and_eq_true_iff.mp h
  obtain ⟨h10, h⟩ := Bool.and_eq_true_iff.mp h
  obtain ⟨h11, h⟩ := Bool.and_eq_true_iff.mp h
  obtain ⟨h12, h⟩ := Bool.and_eq_true_iff.mp h
  obtain ⟨h13, h⟩ := Bool.and_eq_true_iff.mp h
  exact ⟨He.eqO_ok h3, He.eqO_ok h4, of_decide_eq_true h9, h13, He.eqO_ok h5⟩
/-! the hook -/
section
variable {file : Str} {fa : List (Frag → Bool)} {ds : List Dd} {ss : List Sd} {K : Frag}
theorem Told2.told (c : Told2 file fa ds ss K) : Told fa ds K := by
  have c1 := congrArg (fun z : Ob => z.1) c
  have c2 := congrArg (fun z : Ob => z.2) c
  have a1 : ((fa.all fun f => f K) && (ds.all (fun d => d.good K) && ss.all fun d => d.good file K)) = true := c1
  obtain ⟨b1, b2⟩ := Bool.and_eq_true_iff.mp a1
  obtain ⟨b3, b4⟩ := Bool.and_eq_true_iff.mp b2
  have a2 : ds.map (fun d => d.fnd K) ++ ss.map (fun d => d.fnd K) = ds.map Dd.due ++ ss.map Sd.due := c2
  have a3 := (List.append_inj a2 (by simp)).1
  show ((fa.all fun f => f K) && ds.all fun d => d.good K, ds.map fun d => d.fnd K) = (true, ds.map Dd.due)
  rw [b1, b3, a3]
  rfl
theorem Told2.sup (c : Told2 file fa ds ss K) (i : Nat) {d : Sd} (h : ss[i]? = some d) : d.fnd K = d.due ∧ d.good file K = true := by
  have c1 := congrArg (fun z : Ob => z.1) c
  have c2 := congrArg (fun z : Ob => z.2) c
  have a1 : ((fa.all fun f => f K) && (ds.all (fun d => d.good K) && ss.all fun d => d.good file K)) = true := c1
  obtain ⟨b1, b2⟩ := Bool.and_eq_true_iff.mp a1
  obtain ⟨b3, b4⟩ := Bool.and_eq_true_iff.mp b2
  have a2 : ds.map (fun d => d.fnd K) ++ ss.map (fun d => d.fnd K) = ds.map Dd.due ++ ss.map Sd.due := c2
  have a3 := (List.append_inj a2 (by simp)).2
  have e2 : (ss.map fun d => d.fnd K)[i]? = (ss.map Sd.due)[i]? := by rw [a3]
  rw [List.getElem?_map, List.getElem?_map, h] at e2
  exact ⟨Option.some.inj e2, List.all_eq_true.mp b4 d (List.mem_of_getElem? h)⟩
end
end Oh

namespace Law
open PySem PySem.Spec PyProof.Rows L2 Ox
abbrev N_is_integer : List Str := ["thing"]
theorem sc_is_integer : FnScope N_is_integer ["thing"] (defScope s_is_integer) := ⟨rfl, rfl, rfl, by decide +kernel, rfl, by decide +kernel, by decide +kernel⟩
theorem bd_is_integer {K : PySem.W.Frag} {f : Addr} {fd : FuncData} (F : Fun K "is_integer" "is_integer" s_is_integer f fd) : Binds K fd ["thing"] [] := F.binds fun _ _ _ _ _ _ us hl => match us, hl with | [_], _ => rfl
abbrev N_is_name : List Str := ["thing", "char"]
theorem sc_is_name : FnScope N_is_name ["thing"] (defScope s_is_name) := ⟨rfl, rfl, rfl, by decide +kernel, rfl, by decide +kernel, by decide +kernel⟩
theorem bd_is_name {K : PySem.W.Frag} {f : Addr} {fd : FuncData} (F : Fun K "is_name" "is_name" s_is_name f fd) : Binds K fd ["thing"] [] := F.binds fun _ _ _ _ _ _ us hl => match us, hl with | [_], _ => rfl
abbrev N_is_value : List Str := ["thing"]
theorem sc_is_value : FnScope N_is_value ["thing"] (defScope s_is_value) := ⟨rfl, rfl, rfl, by decide +kernel, rfl, by decide +kernel, by decide +kernel⟩
theorem bd_is_value {K : PySem.W.Frag} {f : Addr} {fd : FuncData} (F : Fun K "is_value" "is_value" s_is_value f fd) : Binds K fd ["thing"] [] := F.binds fun _ _ _ _ _ _ us hl => match us, hl with | [_], _ => rfl
abbrev N_are_worths : List Str := ["thing", "name", "value"]
theorem sc_are_worths : FnScope N_are_worths ["thing"] (defScope s_are_worths) := ⟨rfl, rfl, rfl, by decide +kernel, rfl, by decide +kernel, by decide +kernel⟩
theorem bd_are_worths {K : PySem.W.Frag} {f : Addr} {fd : FuncData} (F : Fun K "are_worths" "are_worths" s_are_worths f fd) : Binds K fd ["thing"] [] := F.binds fun _ _ _ _ _ _ us hl => match us, hl with | [_], _ => rfl
abbrev N_Wish_init : List Str := ["self", "worths", "endless", "below", "above", "value", "name"]
theorem sc_Wish_init : FnScope N_Wish_init ["self", "worths", "endless"] (defScope s_Wish_init) := ⟨rfl, rfl, rfl, by decide +kernel, rfl, by decide +kernel, by decide +kernel⟩
theorem bd_Wish_init {K : PySem.W.Frag} {f : Addr} {fd : FuncData} (F : Fun K "__init__" "Wish.__init__" s_Wish_init f fd) : Binds K fd ["self", "worths", "endless"] [] := F.binds fun _ _ _ _ _ _ us hl => match us, hl with | [_, _, _], _ => rfl
abbrev N_Wish_worths : List Str := ["self", "name"]
theorem sc_Wish_worths : FnScope N_Wish_worths ["self"] (defScope s_Wish_worths) := ⟨rfl, rfl, rfl, by decide +kernel, rfl, by decide +kernel, by decide +kernel⟩
theorem bd_Wish_worths {K : PySem.W.Frag} {f : Addr} {fd : FuncData} (F : Fun K "worths" "Wish.worths" s_Wish_worths f fd) : Binds K fd ["self"] [] := F.binds fun _ _ _ _ _ _ us hl => match us, hl with | [_], _ => rfl
abbrev N_Wish_eq : List Str := ["self", "other"]
theorem sc_Wish_eq : FnScope N_Wish_eq ["self", "other"] (defScope s_Wish_eq) := ⟨rfl, rfl, rfl, by decide +kernel, rfl, by decide +kernel, by decide +kernel⟩
theorem bd_Wish_eq {K : PySem.W.Frag} {f : Addr} {fd : FuncData} (F : Fun K "__eq__" "Wish.__eq__" s_Wish_eq f fd) : Binds K fd ["self", "other"] [] := F.binds fun _ _ _ _ _ _ us hl => match us, hl with | [_, _], _ => rfl
abbrev N_pool : List Str := ["_law_script", "_law_pool_here", "_law_k", "_law_number"]
theorem sc_pool : FnScope N_pool ["_law_script"] (defScope s_pool) := ⟨rfl, rfl, rfl, by decide +kernel, rfl, by decide +kernel, by decide +kernel⟩
theorem bd_pool {K : PySem.W.Frag} {f : Addr} {fd : FuncData} (F : Fun K "_law_pool" "_law_pool" s_pool f fd) : Binds K fd ["_law_script"] [] := F.binds fun _ _ _ _ _ _ us hl => match us, hl with | [_], _ => rfl
abbrev N_draw : List Str := ["_law_pool_here", "_law_many", "_law_found", "_law_mixed"]
theorem sc_draw : FnScope N_draw ["_law_pool_here", "_law_many"] (defScope s_draw) := ⟨rfl, rfl, rfl, by decide +kernel, rfl, by decide +kernel, by decide +kernel⟩
theorem bd_draw {K : PySem.W.Frag} {f : Addr} {fd : FuncData} (F : Fun K "_law_draw" "_law_draw" s_draw f fd) : Binds K fd ["_law_pool_here", "_law_many"] [] := F.binds fun _ _ _ _ _ _ us hl => match us, hl with | [_, _], _ => rfl
abbrev N_word : List Str := ["_law_pool_here", "_law_longest", "_law_letters", "_law_signs", "_law_word_here", "_law_k"]
theorem sc_word : FnScope N_word ["_law_pool_here", "_law_longest"] (defScope s_word) := ⟨rfl, rfl, rfl, by decide +kernel, rfl, by decide +kernel, by decide +kernel⟩
theorem bd_word {K : PySem.W.Frag} {f : Addr} {fd : FuncData} (F : Fun K "_law_word" "_law_word" s_word f fd) : Binds K fd ["_law_pool_here", "_law_longest"] [] := F.binds fun _ _ _ _ _ _ us hl => match us, hl with | [_, _], _ => rfl
abbrev N_words : List Str := ["_law_pool_here", "_law_many", "_law_longest", "_law_words_here", "_law_k", "_law_word_here", "_law_j"]
theorem sc_words : FnScope N_words ["_law_pool_here", "_law_many"] (defScope s_words) := ⟨rfl, rfl, rfl, by decide +kernel, rfl, by decide +kernel, by decide +kernel⟩
theorem bd_words {K : PySem.W.Frag} {f : Addr} {fd : FuncData} (F : Fun K "_law_words" "_law_words" s_words f fd) : Binds K fd ["_law_pool_here", "_law_many"] [] := F.binds fun _ _ _ _ _ _ us hl => match us, hl with | [_, _], _ => rfl
abbrev N_endless : List Str := ["_law_pool_here", "_law_wanted", "_law_values", "_law_side", "_law_gap", "_law_name"]
theorem sc_endless : FnScope N_endless ["_law_pool_here", "_law_wanted"] (defScope s_endless) := ⟨rfl, rfl, rfl, by decide +kernel, rfl, by decide +kernel, by decide +kernel⟩
theorem bd_endless {K : PySem.W.Frag} {f : Addr} {fd : FuncData} (F : Fun K "_law_endless" "_law_endless" s_endless f fd) : Binds K fd ["_law_pool_here", "_law_wanted"] [] := F.binds fun _ _ _ _ _ _ us hl => match us, hl with | [_, _], _ => rfl
abbrev N_l_is_int : List Str := ["_law_thing_here"]
theorem sc_l_is_int : FnScope N_l_is_int ["_law_thing_here"] (defScope s_l_is_int) := ⟨rfl, rfl, rfl, by decide +kernel, rfl, by decide +kernel, by decide +kernel⟩
theorem bd_l_is_int {K : PySem.W.Frag} {f : Addr} {fd : FuncData} (F : Fun K "_law_is_int" "_law_is_int" s_l_is_int f fd) : Binds K fd ["_law_thing_here"] [] := F.binds fun _ _ _ _ _ _ us hl => match us, hl with | [_], _ => rfl
abbrev N_l_thing : List Str := ["_law_pool_here", "_law_things"]
theorem sc_l_thing : FnScope N_l_thing ["_law_pool_here"] (defScope s_l_thing) := ⟨rfl, rfl, rfl, by decide +kernel, rfl, by decide +kernel, by decide +kernel⟩
theorem bd_l_thing {K : PySem.W.Frag} {f : Addr} {fd : FuncData} (F : Fun K "_law_thing" "_law_thing" s_l_thing f fd) : Binds K fd ["_law_pool_here"] [] := F.binds fun _ _ _ _ _ _ us hl => match us, hl with | [_], _ => rfl
abbrev N_l_is_name : List Str := ["_law_thing_here", "_law_letters", "_law_sign"]
theorem sc_l_is_name : FnScope N_l_is_name ["_law_thing_here"] (defScope s_l_is_name) := ⟨rfl, rfl, rfl, by decide +kernel, rfl, by decide +kernel, by decide +kernel⟩
theorem bd_l_is_name {K : PySem.W.Frag} {f : Addr} {fd : FuncData} (F : Fun K "_law_is_name" "_law_is_name" s_l_is_name f fd) : Binds K fd ["_law_thing_here"] [] := F.binds fun _ _ _ _ _ _ us hl => match us, hl with | [_], _ => rfl
abbrev N_l_key : List Str := ["_law_thing_here"]
theorem sc_l_key : FnScope N_l_key ["_law_thing_here"] (defScope s_l_key) := ⟨rfl, rfl, rfl, by decide +kernel, rfl, by decide +kernel, by decide +kernel⟩
theorem bd_l_key {K : PySem.W.Frag} {f : Addr} {fd : FuncData} (F : Fun K "_law_key" "_law_key" s_l_key f fd) : Binds K fd ["_law_thing_here"] [] := F.binds fun _ _ _ _ _ _ us hl => match us, hl with | [_], _ => rfl
abbrev N_l_is_value : List Str := ["_law_thing_here"]
theorem sc_l_is_value : FnScope N_l_is_value ["_law_thing_here"] (defScope s_l_is_value) := ⟨rfl, rfl, rfl, by decide +kernel, rfl, by decide +kernel, by decide +kernel⟩
theorem bd_l_is_value {K : PySem.W.Frag} {f : Addr} {fd : FuncData} (F : Fun K "_law_is_value" "_law_is_value" s_l_is_value f fd) : Binds K fd ["_law_thing_here"] [] := F.binds fun _ _ _ _ _ _ us hl => match us, hl with | [_], _ => rfl
abbrev N_l_is_good : List Str := ["_law_worths", "_law_endless_here", "_law_name", "_law_below"]
theorem sc_l_is_good : FnScope N_l_is_good ["_law_worths", "_law_endless_here"] (defScope s_l_is_good) := ⟨rfl, rfl, rfl, by decide +kernel, rfl, by decide +kernel, by decide +kernel⟩
theorem bd_l_is_good {K : PySem.W.Frag} {f : Addr} {fd : FuncData} (F : Fun K "_law_is_good" "_law_is_good" s_l_is_good f fd) : Binds K fd ["_law_worths", "_law_endless_here"] [] := F.binds fun _ _ _ _ _ _ us hl => match us, hl with | [_, _], _ => rfl
abbrev N_l_drawn_worths : List Str := ["_law_pool_here", "_law_reach", "_law_worths", "_law_name", "_law_k"]
theorem sc_l_drawn_worths : FnScope N_l_drawn_worths ["_law_pool_here"] (defScope s_l_drawn_worths) := ⟨rfl, rfl, rfl, by decide +kernel, rfl, by decide +kernel, by decide +kernel⟩
theorem bd_l_drawn_worths {K : PySem.W.Frag} {f : Addr} {fd : FuncData} (F : Fun K "_law_drawn_worths" "_law_drawn_worths" s_l_drawn_worths f fd) : Binds K fd ["_law_pool_here"] [] := F.binds fun _ _ _ _ _ _ us hl => match us, hl with | [_], _ => rfl
abbrev N_l_spoil_wish : List Str := ["_law_pool_here", "_law_parts", "_law_thing_here", "_law_kind", "_law_worths", "_law_names"]
theorem sc_l_spoil_wish : FnScope N_l_spoil_wish ["_law_pool_here", "_law_parts"] (defScope s_l_spoil_wish) := ⟨rfl, rfl, rfl, by decide +kernel, rfl, by decide +kernel, by decide +kernel⟩
theorem bd_l_spoil_wish {K : PySem.W.Frag} {f : Addr} {fd : FuncData} (F : Fun K "_law_spoil_wish" "_law_spoil_wish" s_l_spoil_wish f fd) : Binds K fd ["_law_pool_here", "_law_parts"] [] := F.binds fun _ _ _ _ _ _ us hl => match us, hl with | [_, _], _ => rfl
abbrev N_law : List Str := ["_law_script", "_law_pool_here", "_law_many", "_law_worths", "_law_parts", "_law_k", "_law_before", "_law_wish", "_law_refused", "e", "_law_found", "_law_name"]
theorem sc_law : FnScope N_law ["_law_script"] (defScope s_law) := ⟨rfl, rfl, rfl, by decide +kernel, rfl, by decide +kernel, by decide +kernel⟩
theorem bd_law {K : PySem.W.Frag} {f : Addr} {fd : FuncData} (F : Fun K "law" "law" s_law f fd) : Binds K fd ["_law_script"] [] := F.binds fun _ _ _ _ _ _ us hl => match us, hl with | [_], _ => rfl
end Law
namespace Law
open PySem PySem.Spec PyProof.Rows L2 Ox
local macro_rules | `(tactic| walk_at "hp") => `(tactic| first
  | assumption
  | exact upd_same
  | (refine (upd_ne ?_).trans ?_; (walk_at "ne"); (walk_at "hp")))
local macro_rules | `(tactic| walk_at "ne") => `(tactic| first
  | assumption
  | exact Ne.symm (by assumption)
  | exact ne_old (by assumption) (by walk_at "hp")
  | exact Ne.symm (ne_old (by assumption) (by walk_at "hp"))
  | exact ne_two (by walk_at "hp") (by walk_at "hp") (by intro z; cases z)
  | exact fun z => absurd z (by decide))
local macro_rules | `(tactic| walk_at "kd") => `(tactic| first
  | exact .non
  | exact .bl _
  | exact .int _
  | exact .str _
  | assumption
  | exact .lst (SqL.of (by walk_at "hp"))
  | exact .tup (SqT.of (by walk_at "hp"))
  | exact .dict (.inl (by walk_at "hp")))
local macro_rules | `(tactic| walk_at "cond") => `(tactic| first
  | omega
  | exact mulok_r (by omega) (by omega)
  | exact mulok_l (by omega) (by omega)
  | exact divok (by omega) (by omega)
  | exact divok2 (by omega) (by omega)
  | exact ⟨by omega, by decide +kernel⟩
  | decide +kernel)
local macro_rules | `(tactic| walk_at "go") => `(tactic| repeat (first
  | (with_reducible refine x_seq ?_)
  | (with_reducible refine x_next ?_)
  | (with_reducible refine x_brk ?_)
  | (with_reducible refine x_cont ?_)
  | (with_reducible refine x_ret ?_)
  | (with_reducible refine x_retN ?_)
  | (with_reducible refine x_set ?_)
  | (with_reducible refine x_if ?_)
  | (with_reducible refine x_drop ?_)
  | (with_reducible refine x_par ?_)
  | (with_reducible refine x_par2 ?_)
  | (with_reducible refine x_setL ?_)
  | ((with_reducible refine' x_var ?xh ?_); (case xh => exact rfl))
  | ((with_reducible refine' x_aug ?xh ?_); (case xh => exact rfl))
  | (with_reducible refine x_c ?_)
  | (with_reducible refine x_op ?_)
  | (with_reducible refine x_un ?_)
  | (with_reducible refine x_I0 ?_)
  | (with_reducible refine x_ipI ?_)
  | ((with_reducible refine x_I ?xh ?_); (case xh => walk_at "cond"))
  | (with_reducible refine x_U ?_)
  | (with_reducible refine x_eqI ?_)
  | (with_reducible refine x_eqS ?_)
  | (with_reducible refine x_eqB ?_)
  | (with_reducible refine x_neI ?_)
  | (with_reducible refine x_neS ?_)
  | (with_reducible refine x_neB ?_)
  | (with_reducible refine x_blV ?_)
  | (with_reducible refine x_bl ?_)
  | (with_reducible refine x_test ?_)
  | (with_reducible refine x_B ?_)
  | (with_reducible refine x_not ?_)
  | (with_reducible refine x_and ?_)
  | (with_reducible refine x_or ?_)
  | (with_reducible refine x_andV ?_)
  | (with_reducible refine x_orV ?_)
  | (with_reducible refine x_notV ?_)
  | (with_reducible refine x_ifE ?_)
  | (with_reducible refine x_chain ?_)
  | (with_reducible refine x_nil ?_)
  | (with_reducible refine x_cons ?_)
  | (with_reducible refine x_tup ?_)
  | (with_reducible refine x_lst ?_)
  | (with_reducible refine x_cb ?_)
  | (with_reducible refine x_call ?_)
  | (with_reducible refine x_make ?_)
  | (with_reducible refine x_Fld ?_)
  | (with_reducible refine x_forL ?_)
  | (with_reducible refine x_forT ?_)
  | (with_reducible refine x_forR ?_)
  | (with_reducible refine x_forR2 ?_)
  | (with_reducible refine x_forS ?_)
  | (with_reducible refine x_forK ?_)
  | (with_reducible refine x_forI ?_)
  | (with_reducible refine x_forV ?_)
  | (with_reducible refine x_g1 ?_)
  | (with_reducible refine x_lc ?_)
  | (with_reducible refine x_dc ?_)
  | (with_reducible refine x_yes1 ?_)
  | (with_reducible refine x_iK ?_)
  | (with_reducible refine x_iV ?_)
  | (with_reducible refine x_iI ?_)
  | (with_reducible refine x_iL ?_)
  | (with_reducible refine x_iT ?_)
  | (with_reducible refine x_iS ?_)
  | (with_reducible refine x_iR ?_)
  | (with_reducible refine x_dget ?_)
  | (with_reducible refine x_din ?_)
  | (with_reducible refine x_dnin ?_)
  | (with_reducible refine x_dput ?_)
  | (with_reducible refine x_newK ?_)
  | (with_reducible refine x_listV ?_)
  | (with_reducible refine x_sfld ?_)
  | (with_reducible refine x_revL ?_)
  | (with_reducible refine x_prop ?_)
  | (with_reducible refine x_sl ?_)
  | (with_reducible refine x_forE ?_)
  | (with_reducible refine x_mt ?_)
  | (with_reducible refine x_nopart ?_)
  | (with_reducible refine x_part ?_)
  | (with_reducible refine x_parti ?_)
  | (with_reducible refine x_bm ?_)
  | (with_reducible refine x_bm0 ?_)
  | (with_reducible refine x_intI ?_)
  | (with_reducible refine x_max2 ?_)
  | (with_reducible refine x_min2 ?_)
  | (with_reducible refine x_abs ?_)
  | (with_reducible refine x_isN ?_)
  | (with_reducible refine x_notN ?_)
  | (with_reducible refine x_inS ?_)
  | (with_reducible refine x_ninS ?_)
  | (with_reducible refine x_T ?_)
  | (with_reducible refine x_F ?_)
  | (with_reducible refine x_nT ?_)
  | (with_reducible refine x_nF ?_)
  | ((with_reducible refine' x_lenL ?xh ?_); (case xh => exact SqL.of (by walk_at "hp")))
  | ((with_reducible refine' x_tyL ?xh ?_); (case xh => exact SqL.of (by walk_at "hp")))
  ))
/-! ### a list over a range, ends of an if -/
theorem lcR {D : Addr} {g : TG} {tt : TT} {te : TE} {vs : List Nat} {σ : L2.St} {H : Hp} {Qd : Hp → Prop} {m : Nat} (Pv : Nat → Hp → Prop) (h0 : Pv 0 (upd H D (.lst [])))
    (hs : ∀ i H, i < m → Pv i H → g (.int (i : Int)) (wipe σ vs) H fun σ2 H2 => wipe σ2 vs = wipe σ vs ∧ tt σ2 H2 fun b H3 =>
      if b = true then te σ2 H3 fun y H4 => ∃ acc, H4 D = some (.lst acc) ∧ acc.length < sizeLine ∧ Pv (i + 1) (upd H4 D (.lst (acc ++ [y]))) else Pv (i + 1) H3) (hd : ∀ H, Pv m H → Qd H) : LcP (Itr 0 m) g tt te vs σ D Qd H :=
  lc_by walk_range Pv h0 (fun _ _ _ _ => trivial) (fun i x H H' hi hp y => by
    obtain ⟨rfl, rfl⟩ := y
    dsimp only
    rw [Int.zero_add]
    exact hs i _ hi hp) hd
/-- both ends of an if go on alike -/
theorem if_join {α : Type} {c : TT} {t e : TS} {n : L2.St → Hp → Prop} {r : VK} {b k : L2.St → Hp → Prop} {σ : L2.St} {H : Hp} (S : α → Prop) (f : α → L2.St) (h : ∀ n' : L2.St → Hp → Prop, (∀ a, S a → n' (f a) H) → tIfS c t e ⟨n', r, b, k⟩ σ H) (hn : ∀ a, S a → n (f a) H) : tIfS c t e ⟨n, r, b, k⟩ σ H := h n hn
theorem if_joinH {α : Type} {c : TT} {t e : TS} {n : L2.St → Hp → Prop} {r : VK} {b k : L2.St → Hp → Prop} {σ : L2.St} {H : Hp} (S : α → Hp → Prop) (f : α → L2.St) (h : ∀ n' : L2.St → Hp → Prop, (∀ a H', S a H' → n' (f a) H') → tIfS c t e ⟨n', r, b, k⟩ σ H) (hn : ∀ a H', S a H' → n (f a) H') : tIfS c t e ⟨n, r, b, k⟩ σ H := h n hn
/-! ### the pool of draws: nothing is said of what is drawn but its bounds -/
def PoolOk (ns : List Int) : Prop := ∃ x r, ns = x :: r ∧ 0 ≤ x ∧ x < 2147483647 ∧ r.length ≤ 63
abbrev intsV (ns : List Int) : List V := ns.map V.int
def PoolAt (H : Hp) (p : Addr) : Prop := ∃ ns, H p = some (.lst (intsV ns)) ∧ PoolOk ns
def spPool (K : PySem.W.Frag) : Sp := fun vs H Q _ => ∃ (a : Addr) (ns : List Int), vs = [.ref a] ∧ SqL K H a (intsV ns) ∧ ns.length ≤ 63 ∧
  ∀ H' p, L2.Same H H' → H p = none → PoolAt H' p → Q (.ref p) H'
def spDraw : Sp := fun vs H Q _ => ∃ (p : Addr) (m : Int), vs = [.ref p, .int m] ∧ PoolAt H p ∧ 0 < m ∧ m < 2 ^ 200 ∧
  ∀ H' r, But p H H' → PoolAt H' p → 0 ≤ r → r < m → Q (.int r) H'
theorem intsV_at {ns : List Int} {j : Nat} {z : Int} (h : ns[j]? = some z) : atI (intsV ns) (j : Int) = some (.int z) := atI_nat (by rw [List.getElem?_map, h]; rfl)
section
variable {P : Program} {w : World} {K : PySem.W.Frag} {mg : Str → Option Value} {base : Heap}
theorem ok_draw {f : Addr} {fd : FuncData} (F : Fun K "_law_draw" "_law_draw" s_draw f fd) (Z_len : mg "len" = none) (Z_int : mg "int" = none) : FnOk P w K mg base CX0 1 f fd ["_law_pool_here", "_law_many"] spDraw := by
  refine F.ok sc_draw (fun vs H Q E h => ?_) (fun cdv A outer s H vs Q E hr h => ?_)
  · obtain ⟨_, _, rfl, _⟩ := h
    rfl
  · obtain ⟨p, m, rfl, ⟨ns, hp, x, r, rfl, hx, hx2, hl⟩, hm, hm2, k⟩ := h
    refine ⟨_, (pss_cons (ps_if (pt_cmpR op_gt (pe_callB call_lenA (by rfl) Z_len (by decide +kernel) (pa_cons (pv 0) pa_nil)) pe_int (nomark _))
      (pss_cons (ps_set (i := 2) sc_draw.nd rfl (Or.inl rfl) (pe_op op_mod (pe_callTy call_intA (by rfl) Z_int (by decide +kernel) (pa_cons (pe_ix ix_list (pv 0) pe_int (fun _ _ => rfl)) pa_nil)) (pv 1)))
      (pss_cons (ps_asg (pe_op op_fdivA (pe_ix ix_list (pv 0) pe_int (fun _ _ => rfl)) (pv 1)) (pg_sub (pv 0) pe_int set_list))
      (pss_cons (ps_if (pt_cmpR op_le (pe_ix ix_list (pv 0) pe_int (fun _ _ => rfl)) pe_int (nomark _))
      (pss_one (ps_expr (pe_bm PySem.F.plainAttrs_list PySem.F.slot_list_pop PySem.F.type_list_pop mt_popAt (pv 0) (pa_cons pe_int pa_nil))))
      pss_nil)
      (pss_one (ps_ret (pv 2))))))
      pss_nil)
      (pss_cons (ps_asg (pe_op op_mod (pe_callTy call_intA (by rfl) Z_int (by decide +kernel) (pa_cons (pe_op op_add (pe_op op_mulA (pe_ix ix_list (pv 0) pe_int (fun _ _ => rfl)) pe_int) pe_int) pa_nil)) pe_int) (pg_sub (pv 0) pe_int set_list))
      (pss_cons (ps_set (i := 3) sc_draw.nd rfl (Or.inl rfl) (pe_op op_mod (pe_callTy call_intA (by rfl) Z_int (by decide +kernel) (pa_cons (pe_op op_mulA (pe_ix ix_list (pv 0) pe_int (fun _ _ => rfl)) (pe_op op_add (pe_op op_fdivA (pe_ix ix_list (pv 0) pe_int (fun _ _ => rfl)) pe_int) pe_int)) pa_nil)) pe_int))
      (pss_one (ps_ret (pe_op op_mod (pe_callTy call_intA (by rfl) Z_int (by decide +kernel) (pa_cons (pe_op op_fdivA (pv 3) pe_int) pa_nil)) (pv 1))))))), ?_⟩
    walk_at "go"
    refine x_dec (fun hc => ?_) (fun hc => ?_)
    · cases r with
      | nil => simp at hc
      | cons y r =>
        walk_at "go"
        refine x_ixl 1 (SqL.of hp) rfl rfl ?_
        walk_at "go"
        refine x_ixl 1 (SqL.of hp) rfl rfl ?_
        walk_at "go"
        refine x_setl (j := 1) hp rfl (by simp) ?_
        walk_at "go"
        refine x_ixl 1 (SqL.of upd_same) rfl rfl ?_
        walk_at "go"
        have hmod := Int.emod_nonneg y (show m ≠ 0 by omega)
        have hmod2 := Int.emod_lt_of_pos y hm
        refine x_dec (fun hd => ?_) (fun hd => ?_)
        · walk_at "go"
          refine x_popAt (j := 1) (y := .int (y / m)) upd_same rfl rfl (by simp at hl ⊢; omega) ?_
          walk_at "go"
          exact k _ _ (But.refl.at_.at_) ⟨x :: r, upd_same, x, r, rfl, hx, hx2, by simp at hl; omega⟩ hmod hmod2
        · walk_at "go"
          exact k _ _ (But.refl.at_) ⟨x :: (y / m) :: r, upd_same, x, _, rfl, hx, hx2, by simpa using hl⟩ hmod hmod2
    · walk_at "go"
      refine x_ixl 0 (SqL.of hp) rfl rfl ?_
      walk_at "go"
      refine x_setl (j := 0) hp rfl (by simp) ?_
      walk_at "go"
      generalize hz : (x * 48271 + 30103) % 2147483647 = z
      have z0 : 0 ≤ z := by rw [← hz]; exact Int.emod_nonneg _ (by decide)
      have z1 : z < 2147483647 := by rw [← hz]; exact Int.emod_lt_of_pos _ (by decide)
      have ez : (intsV (x :: r)).set 0 (.int z) = intsV (z :: r) := rfl
      rw [ez]
      refine x_ixl 0 (SqL.of upd_same) rfl rfl ?_
      walk_at "go"
      refine x_ixl 0 (SqL.of upd_same) rfl rfl ?_
      walk_at "go"
      exact k _ _ (But.refl.at_) ⟨z :: r, upd_same, z, r, rfl, z0, z1, hl⟩ (Int.emod_nonneg _ (by omega)) (Int.emod_lt_of_pos _ hm)
theorem ok_pool {f : Addr} {fd : FuncData} (F : Fun K "_law_pool" "_law_pool" s_pool f fd) (Z_len : mg "len" = none) (Z_int : mg "int" = none) (Z_min : mg "min" = none) (Z_range : mg "range" = none) : FnOk P w K mg base CX0 1 f fd ["_law_script"] (spPool K) := by
  refine F.ok sc_pool (fun vs H Q E h => ?_) (fun cdv A outer s H vs Q E hr h => ?_)
  · obtain ⟨_, _, rfl, _⟩ := h
    rfl
  · obtain ⟨a, ns, rfl, hS, hlen, k⟩ := h
    refine ⟨_, (pss_cons (ps_set (i := 1) sc_pool.nd rfl (Or.inl rfl) (pe_lst (pa_cons (pe_op op_add (pe_op op_mod (pe_callB call_lenA (by rfl) Z_len (by decide +kernel) (pa_cons (pv 0) pa_nil)) pe_int) pe_int) pa_nil)))
      (pss_cons (ps_for PassesOwn.never rfl (pi_range1 rfl Z_range (pa_cons (pe_callB (call_min2A rfl) (by rfl) Z_min (by decide +kernel) (pa_cons pe_int (pa_cons (pe_callB call_lenA (by rfl) Z_len (by decide +kernel) (pa_cons (pv 0) pa_nil)) pa_nil))) pa_nil)) (pg_name (i := 2) sc_pool.nd rfl (Or.inl rfl))
      (pss_cons (ps_asg (pe_op op_mod (pe_callTy call_intA (by rfl) Z_int (by decide +kernel) (pa_cons (pe_op op_add (pe_op op_add (pe_op op_mulA (pe_ix ix_list (pv 1) pe_int (fun _ _ => rfl)) pe_int) (pe_op op_mod (pe_callTy call_intA (by rfl) Z_int (by decide +kernel) (pa_cons (pe_ix ix_list (pv 0) (pv 2) (fun _ _ => rfl)) pa_nil)) pe_int)) (pe_op op_mulA pe_int (pv 2))) pa_nil)) pe_int) (pg_sub (pv 1) pe_int set_list))
      (pss_one (ps_if (pt_cmpR op_ge (pe_ix ix_list (pv 0) (pv 2) (fun _ _ => rfl)) (pe_op op_powW pe_int pe_int) (nomark _))
      (pss_cons (ps_set (i := 3) sc_pool.nd rfl (Or.inl rfl) (pe_op op_mod (pe_callTy call_intA (by rfl) Z_int (by decide +kernel) (pa_cons (pe_ix ix_list (pv 0) (pv 2) (fun _ _ => rfl)) pa_nil)) (pe_op op_powW (pe_op op_powW pe_int pe_int) pe_int)))
      (pss_one (ps_if (pt_cmpR op_gt (pv 3) pe_int (nomark _))
      (pss_one (ps_expr (pe_bm PySem.F.plainAttrs_list PySem.F.slot_list_append PySem.F.type_list_append mt_append (pv 1) (pa_cons (pv 3) pa_nil))))
      pss_nil)))
      pss_nil))))
      (pss_one (ps_ret (pv 1))))), ?_⟩
    walk_at "go"
    refine x_lenL hS ?_
    walk_at "go"
    refine ⟨sz_le (by simp), fun p hp => ?_⟩
    walk_at "go"
    have s1 : L2.Same H (upd H p (.lst [.int (((intsV ns).length : Int) % 1009 + 17)])) := same_new hp
    refine x_lenL (s1.seq hS) ?_
    walk_at "go"
    have el : (intsV ns).length = ns.length := List.length_map ..
    refine lpR (fun i σ H' => ∃ v2 v3 ps, σ = [some (.ref a), some (.ref p), v2, v3] ∧ L2.Same H H' ∧ H' p = some (.lst (intsV ps)) ∧ PoolOk ps ∧ ps.length ≤ i + 1) ?_ ?_ ?_ ?_
    · rw [el]
      split <;> omega
    · exact ⟨none, none, [_], rfl, s1, upd_same, ⟨_, [], rfl, by omega, by omega, by simp⟩, by simp⟩
    · rintro i σ H' hi ⟨v2, v3, ps, rfl, s2, hps, ⟨x, r, rfl, hx, hx2, hl⟩, hlp⟩
      have hi2 : i < ns.length := by
        rw [el] at hi
        split at hi <;> omega
      have hi3 : i < 63 := by
        rw [el] at hi
        split at hi <;> omega
      obtain ⟨z, hz⟩ : ∃ z, ns[i]? = some z := ⟨_, List.getElem?_eq_getElem hi2⟩
      have hz2 : (intsV ns)[i]? = some (.int z) := by rw [List.getElem?_map, hz]; rfl
      walk_at "go"
      refine x_ixl 0 (SqL.of hps) rfl rfl ?_
      walk_at "go"
      refine x_ixl i (s2.seq hS) rfl hz2 ?_
      walk_at "go"
      refine x_setl (j := 0) hps rfl (by simp) ?_
      walk_at "go"
      generalize hq : (x * 69621 + z % 1000003 + 7 * (i : Int)) % 2147483647 = q
      have q0 : 0 ≤ q := by rw [← hq]; exact Int.emod_nonneg _ (by decide)
      have q1 : q < 2147483647 := by rw [← hq]; exact Int.emod_lt_of_pos _ (by decide)
      have e1 : (intsV (x :: r)).set 0 (.int q) = intsV (q :: r) := rfl
      rw [e1]
      have s3 : L2.Same H (upd H' p (.lst (intsV (q :: r)))) := same_upd s2 hp
      refine x_ixl i (s3.seq hS) rfl hz2 ?_
      walk_at "go"
      refine x_dec (fun hc => ?_) (fun hc => ?_)
      · walk_at "go"
        refine x_ixl i (s3.seq hS) rfl hz2 ?_
        walk_at "go"
        refine x_dec (fun hd => ?_) (fun hd => ?_)
        · walk_at "go"
          refine x_app upd_same (sz_lt (by simp at hlp ⊢; omega)) ?_
          walk_at "go"
          generalize z % (10 ^ Int.toNat 60) ^ Int.toNat 10 = y at hd ⊢
          exact ⟨_, _, q :: (r ++ [y]), rfl, same_upd s3 hp, by rw [upd_same]; simp [intsV], ⟨q, _, rfl, q0, q1, by simp at hlp ⊢; omega⟩, by simp at hlp ⊢; omega⟩
        · walk_at "go"
          exact ⟨_, _, q :: r, rfl, s3, upd_same, ⟨q, r, rfl, q0, q1, hl⟩, by simp at hlp ⊢; omega⟩
      · walk_at "go"
        exact ⟨_, _, q :: r, rfl, s3, upd_same, ⟨q, r, rfl, q0, q1, hl⟩, by simp at hlp ⊢; omega⟩
    · rintro σ H' ⟨v2, v3, ps, rfl, s2, hps, hok, hlp⟩
      walk_at "go"
      exact k _ _ s2 hp ⟨ps, hps, hok⟩
end
theorem PoolAt.upd {H : Hp} {p q : Addr} {o : HO} (h : PoolAt H p) (n : p ≠ q) : PoolAt (upd H q o) p := by
  obtain ⟨ns, e, ok⟩ := h
  exact ⟨ns, by rw [upd_ne n]; exact e, ok⟩
theorem PoolAt.new {H : Hp} {p q : Addr} {o : HO} (h : PoolAt H p) (n : H q = none) : PoolAt (L2.upd H q o) p := by
  obtain ⟨ns, e, ok⟩ := h
  exact ⟨ns, by rw [upd_ne (ne_of_none e n)]; exact e, ok⟩
theorem PoolAt.ne {H : Hp} {p q : Addr} (h : PoolAt H p) (n : H q = none) : q ≠ p := by
  obtain ⟨ns, e, ok⟩ := h
  exact fun z => by rw [z, e] at n; cases n
theorem PoolAt.same {H H' : Hp} {p : Addr} (h : PoolAt H p) (s : L2.Same H H') : PoolAt H' p := by
  obtain ⟨ns, e, ok⟩ := h
  exact ⟨ns, s _ _ e, ok⟩
theorem PoolAt.ned {H : Hp} {p d : Addr} {kvs : List (Key × V)} (h : PoolAt H p) (n : H d = some (.dK kvs)) : d ≠ p := by
  obtain ⟨ns, e, ok⟩ := h
  exact fun z => by rw [z, e] at n; cases n
def Side (e : Int) (l : List (Str × Int)) : Prop := (∀ p ∈ l, e ≤ p.2) ∨ (∀ p ∈ l, p.2 ≤ e)
/-! ### names -/
def lowC (d : Nat) : Prop := 97 ≤ d ∧ d ≤ 122
def sgnC (d : Nat) : Prop := (97 ≤ d ∧ d ≤ 122) ∨ (48 ≤ d ∧ d ≤ 57)
instance (d : Nat) : Decidable (lowC d) := inferInstanceAs (Decidable (_ ∧ _))
instance (d : Nat) : Decidable (sgnC d) := inferInstanceAs (Decidable (_ ∨ _))
/-- a name's signs -/
def NameL (l : List Nat) : Prop := ∃ d r, l = d :: r ∧ lowC d ∧ r.length ≤ 7 ∧ ∀ e ∈ r, sgnC e
def NameS (z : Str) : Prop := NameL z.cps.toList
theorem str_len (z : Str) : z.length = z.cps.toList.length := by show z.cps.size = _; simp
theorem tl_app (x y : Str) : (x ++ y).cps.toList = x.cps.toList ++ y.cps.toList := TL.tl_append x y
theorem NameS.len {z : Str} (h : NameS z) : z.length ≤ 8 := by
  obtain ⟨d, r, e, _, hl, _⟩ := h
  rw [str_len, e]
  simp
  omega
theorem letters_at : ∀ j < 26, ("abcdefghijklmnopqrstuvwxyz" : Str).cps.toList[j]? = some (97 + j) := by decide +kernel
theorem signs_at : ∀ j < 36, ∃ d, (("abcdefghijklmnopqrstuvwxyz" : Str) ++ ("0123456789" : Str)).cps.toList[j]? = some d ∧ sgnC d := by
  have h : ∀ j < 36, ((("abcdefghijklmnopqrstuvwxyz" : Str) ++ ("0123456789" : Str)).cps.toList[j]?).any (fun d => decide (sgnC d)) = true := by decide +kernel
  intro j hj
  have h1 := h j hj
  cases e : (("abcdefghijklmnopqrstuvwxyz" : Str) ++ ("0123456789" : Str)).cps.toList[j]? with
  | none => rw [e] at h1; cases h1
  | some d => rw [e] at h1; exact ⟨d, rfl, of_decide_eq_true h1⟩
/-! ### several names, all different -/
def nmS (t : Nat) : Str := ("n" : Str) ++ Str.ofString (toString ((t : Nat) : Int))
theorem nmS_tl (t : Nat) : (nmS t).cps.toList = 110 :: TL.numL t := by
  unfold nmS
  rw [tl_app]
  have e : ("n" : Str).cps.toList = [110] := by decide +kernel
  rw [e]
  show 110 :: _ = _
  exact congrArg (List.cons 110) (TL.tl_num t)
theorem nmS_inj {a b : Nat} (h : nmS a = nmS b) : a = b := by
  have e := congrArg (fun z : Str => z.cps.toList) h
  simp only [nmS_tl, List.cons.injEq, true_and] at e
  exact TL.numL_inj e
theorem nmS_name {t : Nat} (h : t < 1000000) : NameS (nmS t) := by
  refine ⟨110, TL.numL t, nmS_tl t, ⟨by omega, by omega⟩, ?_, fun e he => ?_⟩
  · exact Nat.le_trans (TL.numL_len (k := 6) (by decide) (by simpa using h)) (by decide)
  · have := TL.numL_digits t e he
    exact .inr ⟨this.1, this.2⟩
abbrev strsV (ws : List Str) : List V := ws.map V.str
/-! ### drawn words -/
def spWord : Sp := fun vs H Q _ => ∃ (p : Addr) (m : Int), vs = [.ref p, .int m] ∧ PoolAt H p ∧ 0 < m ∧ m ≤ 8 ∧
  ∀ H' z, But p H H' → PoolAt H' p → NameS z → Q (.str z) H'
section
variable {P : Program} {w : World} {K : PySem.W.Frag} {mg : Str → Option Value} {base : Heap}
theorem ok_word {f : Addr} {fd : FuncData} (F : Fun K "_law_word" "_law_word" s_word f fd) (Z_range : mg "range" = none) (C_draw : Cal P w K mg base 1 "_law_draw" ["_law_pool_here", "_law_many"] spDraw) : FnOk P w K mg base CX0 2 f fd ["_law_pool_here", "_law_longest"] spWord := by
  refine F.ok sc_word (fun vs H Q E h => ?_) (fun cdv A outer s H vs Q E hr h => ?_)
  · obtain ⟨_, _, rfl, _⟩ := h
    rfl
  · obtain ⟨p, m, rfl, hp, hm, hm2, k⟩ := h
    refine ⟨_, (pss_cons (ps_set (i := 2) sc_word.nd rfl (Or.inl rfl) pe_str)
      (pss_cons (ps_set (i := 3) sc_word.nd rfl (Or.inl rfl) (pe_op op_addSA (pv 2) pe_str))
      (pss_cons (ps_set (i := 4) sc_word.nd rfl (Or.inl rfl) (pe_ix ix_str (pv 2) (pe_cal C_draw (hr.mono (by decide)) (by rfl) (pa_cons (pv 0) (pa_cons pe_int pa_nil))) (fun _ _ => rfl)))
      (pss_cons (ps_for PassesOwn.never rfl (pi_range1 rfl Z_range (pa_cons (pe_cal C_draw (hr.mono (by decide)) (by rfl) (pa_cons (pv 0) (pa_cons (pv 1) pa_nil))) pa_nil)) (pg_name (i := 5) sc_word.nd rfl (Or.inl rfl))
      (pss_one (ps_set (i := 4) sc_word.nd rfl (Or.inl rfl) (pe_op op_addSA (pv 4) (pe_ix ix_str (pv 3) (pe_cal C_draw (hr.mono (by decide)) (by rfl) (pa_cons (pv 0) (pa_cons pe_int pa_nil))) (fun _ _ => rfl))))))
      (pss_one (ps_ret (pv 4))))))), ?_⟩
    walk_at "go"
    refine x_addS (by decide +kernel) ?_
    walk_at "go"
    refine ⟨p, 26, rfl, hp, by decide, by decide, fun H1 j b1 p1 j0 j1 => ?_⟩
    refine x_ixs j.toNat (by decide +kernel) (by omega) (letters_at _ (by omega)) ?_
    walk_at "go"
    refine ⟨p, m, rfl, p1, hm, by omega, fun H2 n b2 p2 n0 n1 => ?_⟩
    refine lpR (fun i σ H' => ∃ z v, σ = [some (.ref p), some (.int m), some (.str ("abcdefghijklmnopqrstuvwxyz" : Str)), some (.str (("abcdefghijklmnopqrstuvwxyz" : Str) ++ ("0123456789" : Str))), some (.str z), v] ∧ But p H H' ∧ PoolAt H' p ∧
      ∃ d r, z.cps.toList = d :: r ∧ lowC d ∧ r.length ≤ i ∧ ∀ e ∈ r, sgnC e) ?_ ?_ ?_ ?_
    · omega
    · exact ⟨_, none, rfl, b1.trans b2, p2, _, [], rfl, ⟨by omega, by omega⟩, by simp, by simp⟩
    · rintro i σ H' hi ⟨z, v, rfl, b3, p3, d, r, ez, hd, hl, hr2⟩
      walk_at "go"
      refine ⟨p, 36, rfl, p3, by decide, by decide, fun H4 j b4 p4 j2 j3 => ?_⟩
      obtain ⟨e, he, hs⟩ := signs_at j.toNat (by omega)
      refine x_ixs j.toNat (by decide +kernel) (by omega) he ?_
      refine x_addS (sz_le ?_) ?_
      · rw [str_len, ez]
        show _ + 1 ≤ _
        simp
        omega
      walk_at "go"
      refine ⟨_, _, rfl, b3.trans b4, p4, d, r ++ [e], ?_, hd, ?_, ?_⟩
      · rw [tl_app, ez]
        rfl
      · simp
        omega
      · intro x hx
        rcases List.mem_append.mp hx with hx | hx
        · exact hr2 x hx
        · rw [List.mem_singleton.mp hx]
          exact hs
    · rintro σ H' ⟨z, v, rfl, b3, p3, d, r, ez, hd, hl, hr2⟩
      walk_at "go"
      exact k _ _ b3 p3 ⟨d, r, ez, hd, by omega, hr2⟩
end
def spWords : Sp := fun vs H Q _ => ∃ (p : Addr) (m : Int), vs = [.ref p, .int m] ∧ PoolAt H p ∧ 0 ≤ m ∧ m ≤ 1000 ∧
  ∀ H' q ws, But p H H' → PoolAt H' p → H q = none → H' q = some (.lst (strsV ws)) → ws.length = m.toNat → (∀ z ∈ ws, NameS z) → ws.Nodup → Q (.ref q) H'
theorem all_nm {ws : List Str} {n : Nat} (h : ∀ t < n, nmS t ∈ ws) : n ≤ ws.length := by
  have nd : ((List.range n).map nmS).Nodup := by
    refine List.pairwise_map.mpr (List.Pairwise.imp (fun {a b} hab e => ?_) (List.nodup_range (n := n)))
    exact hab (nmS_inj e)
  have sub : ((List.range n).map nmS) ⊆ ws := fun x hx => by
    obtain ⟨t, ht, rfl⟩ := List.mem_map.mp hx
    exact h t (List.mem_range.mp ht)
  have := List.Nodup.length_le_of_subset nd sub
  simpa using this
section
variable {P : Program} {w : World} {K : PySem.W.Frag} {mg : Str → Option Value} {base : Heap}
theorem ok_words {f : Addr} {fd : FuncData} (F : Fun K "_law_words" "_law_words" s_words f fd) (Z_range : mg "range" = none) (Z_str : mg "str" = none) (C_draw : Cal P w K mg base 1 "_law_draw" ["_law_pool_here", "_law_many"] spDraw)
    (C_word : Cal P w K mg base 2 "_law_word" ["_law_pool_here", "_law_longest"] spWord) : FnOk P w K mg base CX0 3 f fd ["_law_pool_here", "_law_many"] spWords := by
  refine F.ok sc_words (fun vs H Q E h => ?_) (fun cdv A outer s H vs Q E hr h => ?_)
  · obtain ⟨_, _, rfl, _⟩ := h
    rfl
  · obtain ⟨p, m, rfl, hp, hm, hm2, k⟩ := h
    refine ⟨_, (pss_cons (ps_set (i := 2) sc_words.nd rfl (Or.inl rfl) (pe_ix ix_list (pe_lst (pa_cons pe_int (pa_cons pe_int (pa_cons pe_int (pa_cons pe_int pa_nil))))) (pe_cal C_draw (hr.mono (by decide)) (by rfl) (pa_cons (pv 0) (pa_cons pe_int pa_nil))) (fun _ _ => rfl)))
      (pss_cons (ps_set (i := 3) sc_words.nd rfl (Or.inl rfl) (pe_lst pa_nil))
      (pss_cons (ps_for PassesOwn.never rfl (pi_range1 rfl Z_range (pa_cons (pv 1) pa_nil)) (pg_name (i := 4) sc_words.nd rfl (Or.inl rfl))
      (pss_cons (ps_set (i := 5) sc_words.nd rfl (Or.inl rfl) (pe_cal C_word (hr.mono (by decide)) (by rfl) (pa_cons (pv 0) (pa_cons (pv 2) pa_nil))))
      (pss_cons (ps_for PassesOwn.never rfl (pi_range1 rfl Z_range (pa_cons (pe_op op_add (pv 1) pe_int) pa_nil)) (pg_name (i := 6) sc_words.nd rfl (Or.inl rfl))
      (pss_one (ps_if (pt_cmpR op_in_seq (pv 5) (pv 3) rfl)
      (pss_one (ps_set (i := 5) sc_words.nd rfl (Or.inl rfl) (pe_op op_addSA pe_str (pe_callTy call_strIA (by rfl) Z_str (by decide +kernel) (pa_cons (pv 6) pa_nil)))))
      pss_nil)))
      (pss_one (ps_expr (pe_bm PySem.F.plainAttrs_list PySem.F.slot_list_append PySem.F.type_list_append mt_append (pv 3) (pa_cons (pv 5) pa_nil)))))))
      (pss_one (ps_ret (pv 3)))))), ?_⟩
    walk_at "go"
    refine ⟨sz_le (by simp), fun l hl => ?_⟩
    have hp1 : PoolAt (upd H l (.lst [.int 1, .int 2, .int 3, .int 8])) p := by
      obtain ⟨ns, e, ok⟩ := hp
      exact ⟨ns, by rw [upd_ne (ne_of_none e hl)]; exact e, ok⟩
    walk_at "go"
    refine ⟨p, 4, rfl, hp1, by decide, by decide, fun H1 j b1 p1 j0 j1 => ?_⟩
    have npl : l ≠ p := by
      obtain ⟨ns, e, ok⟩ := hp
      exact fun z => by rw [z, e] at hl; cases hl
    have hl1 : H1 l = some (.lst [.int 1, .int 2, .int 3, .int 8]) := b1 l _ upd_same npl
    have bb : But p H H1 := fun q o e n => b1 q o (by rw [upd_ne (ne_of_none e hl)]; exact e) n
    obtain ⟨g, hg, hg1, hg2⟩ : ∃ g : Int, [V.int 1, V.int 2, V.int 3, V.int 8][j.toNat]? = some (.int g) ∧ 0 < g ∧ g ≤ 8 := by
      have h4 : j = 0 ∨ j = 1 ∨ j = 2 ∨ j = 3 := by omega
      rcases h4 with rfl | rfl | rfl | rfl
      · exact ⟨1, rfl, by omega, by omega⟩
      · exact ⟨2, rfl, by omega, by omega⟩
      · exact ⟨3, rfl, by omega, by omega⟩
      · exact ⟨8, rfl, by omega, by omega⟩
    refine x_ixl j.toNat (SqL.of hl1) (by omega) hg ?_
    walk_at "go"
    refine ⟨sz_le (by simp), fun q hq => ?_⟩
    walk_at "go"
    have npq : q ≠ p := by
      obtain ⟨ns, e, ok⟩ := p1
      exact fun z => by rw [z, e] at hq; cases hq
    have hq0 : H q = none := by
      cases e : H q with
      | none => rfl
      | some o => rw [bb q o e npq] at hq; cases hq
    refine lpR (fun i σ H' => ∃ ws v4 v5 v6, σ = [some (.ref p), some (.int m), some (.int g), some (.ref q), v4, v5, v6] ∧ But p H H' ∧ PoolAt H' p ∧ H' q = some (.lst (strsV ws)) ∧ ws.length = i ∧ (∀ z ∈ ws, NameS z) ∧ ws.Nodup) ?_ ?_ ?_ ?_
    · omega
    · refine ⟨[], none, none, none, rfl, bb.new hq, ?_, upd_same, rfl, by simp, List.nodup_nil⟩
      obtain ⟨ns, e, ok⟩ := p1
      exact ⟨ns, by rw [upd_ne npq.symm]; exact e, ok⟩
    · rintro i σ H' hi ⟨ws, v4, v5, v6, rfl, b2, p2, hw, hlen, hnm, hnd⟩
      walk_at "go"
      refine ⟨p, g, rfl, p2, hg1, hg2, fun H3 z b3 p3 hz => ?_⟩
      have hw3 : H3 q = some (.lst (strsV ws)) := b3 q _ hw npq
      walk_at "go"
      refine lpR (fun j σ H' => ∃ z v6, σ = [some (.ref p), some (.int m), some (.int g), some (.ref q), some (.int (i : Int)), some (.str z), v6] ∧ H' = H3 ∧ NameS z ∧ (z ∉ ws ∨ ∀ t < j, nmS t ∈ ws)) ?_ ?_ ?_ ?_
      · omega
      · exact ⟨z, _, rfl, rfl, hz, .inr fun t ht => absurd ht (by omega)⟩
      · rintro j σ H' hj ⟨z, v6, rfl, rfl, hz, hor⟩
        walk_at "go"
        refine x_inL (ws := ws) (SqL.of hw3) ?_
        walk_at "go"
        refine x_dec (fun hin => ?_) (fun hin => ?_)
        · have hall : ∀ t < j, nmS t ∈ ws := hor.resolve_left fun e => e hin
          walk_at "go"
          refine x_strI (Nat.lt_of_le_of_lt (Nat.log2_le_self _) (by omega)) ?_
          refine x_addS (i := ("n" : Str)) (j := Str.ofString (toString ((j : Nat) : Int))) (sz_le ?_) ?_
          · have := (nmS_name (t := j) (by omega)).len
            unfold nmS at this
            rw [str_len, tl_app, List.length_append, ← str_len, ← str_len] at this
            omega
          walk_at "go"
          refine ⟨nmS j, _, rfl, rfl, nmS_name (by omega), ?_⟩
          by_cases e : nmS j ∈ ws
          · refine .inr fun t ht => ?_
            by_cases et : t = j
            · rw [et]; exact e
            · exact hall t (by omega)
          · exact .inl e
        · walk_at "go"
          exact ⟨z, _, rfl, rfl, hz, .inl hin⟩
      · rintro σ H' ⟨z, v6, rfl, rfl, hz, hor⟩
        have hnot : z ∉ ws := by
          rcases hor with h | h
          · exact h
          · have := all_nm h
            omega
        walk_at "go"
        refine x_app hw3 (sz_lt (by simp; omega)) ?_
        walk_at "go"
        refine ⟨ws ++ [z], _, _, _, rfl, fun b o e n => ?_, ?_, by rw [upd_same]; simp [strsV], by simp [hlen], ?_, ?_⟩
        · rw [upd_ne (ne_of_none e hq0)]
          exact b3 b o (b2 b o e n) n
        · obtain ⟨ns, e, ok⟩ := p3
          exact ⟨ns, by rw [upd_ne npq.symm]; exact e, ok⟩
        · intro x hx
          rcases List.mem_append.mp hx with hx | hx
          · exact hnm x hx
          · rw [List.mem_singleton.mp hx]; exact hz
        · refine List.nodup_append.mpr ⟨hnd, by simp, fun a ha b hb e => ?_⟩
          rw [List.mem_singleton.mp hb] at e
          exact hnot (e ▸ ha)
    · rintro σ H' ⟨ws, v4, v5, v6, rfl, b2, p2, hw, hlen, hnm, hnd⟩
      walk_at "go"
      exact k _ _ ws b2 p2 hq0 hw hlen hnm hnd
end
/-! ### endless beside the worths -/
/-- endless is at most, or at least, each of the worths -/
def spEndless : Sp := fun vs H Q _ => ∃ (p d : Addr) (l : List (Str × Int)), vs = [.ref p, .ref d] ∧ PoolAt H p ∧ H d = some (.dK (strK V.int l)) ∧ (l.map (·.1)).Nodup ∧ l.length ≤ 200 ∧ (∀ q ∈ l, -99 ≤ q.2 ∧ q.2 ≤ 99) ∧
  ∀ H' e, But p H H' → PoolAt H' p → -99 ≤ e → e ≤ 99 → Side e l → Q (.int e) H'
section
variable {P : Program} {w : World} {K : PySem.W.Frag} {mg : Str → Option Value} {base : Heap}
theorem ok_endless {f : Addr} {fd : FuncData} (F : Fun K "_law_endless" "_law_endless" s_endless f fd) (Z_len : mg "len" = none) (Z_max : mg "max" = none) (Z_min : mg "min" = none)
    (C_draw : Cal P w K mg base 1 "_law_draw" ["_law_pool_here", "_law_many"] spDraw) : FnOk P w K mg base CX0 2 f fd ["_law_pool_here", "_law_wanted"] spEndless := by
  refine F.ok sc_endless (fun vs H Q E h => ?_) (fun cdv A outer s H vs Q E hr h => ?_)
  · obtain ⟨_, _, _, rfl, _⟩ := h
    rfl
  · obtain ⟨p, d, l, rfl, hp, hd, hnd, hlen, hb, k⟩ := h
    have hu := hu_of hr
    refine ⟨_, (pss_cons (ps_lock (ps_setLc (i := 2) (own := [("_law_name", 5)]) (g := gName 5) (tt := tYes) (by rfl) sc_endless.nd rfl rfl (sw_true rfl rfl rfl (by decide +kernel)) (pi_keys (pv 1)) (blkOk_by (own := [("_law_name", 5)]) (N := N_endless) (sc := defScope s_endless) (by decide +kernel)) (fun _ _ _ _ _ => (pg_name (i := 5) sc_endless.nd rfl (Or.inl rfl))) (fun _ _ _ _ _ => pts_nil) (fun _ _ _ _ _ => by exact (pe_dget hu (pv 1) (pv 5) (fun _ _ => rfl)))))
      (pss_cons (ps_set (i := 3) sc_endless.nd rfl (Or.inl rfl) (pe_cal C_draw (hr.mono (by decide)) (by rfl) (pa_cons (pv 0) (pa_cons pe_int pa_nil))))
      (pss_cons (ps_set (i := 4) sc_endless.nd rfl (Or.inl rfl) (pe_cal C_draw (hr.mono (by decide)) (by rfl) (pa_cons (pv 0) (pa_cons pe_int pa_nil))))
      (pss_cons (ps_if (pt_cmpR op_eq (pe_callB call_lenA (by rfl) Z_len (by decide +kernel) (pa_cons (pv 2) pa_nil)) pe_int (nomark _))
      (pss_one (ps_ret (pe_op op_sub (pv 4) pe_int)))
      pss_nil)
      (pss_cons (ps_if (pt_cmpR op_eq (pv 3) pe_int (nomark _))
      (pss_one (ps_ret (pe_callB (call_max2A rfl) (by rfl) Z_max (by decide +kernel) (pa_cons (pe_un un_neg pe_int) (pa_cons (pe_op op_sub (pe_callB (cr_min rfl) (by rfl) Z_min (by decide +kernel) (pa_cons (pv 2) pa_nil)) (pv 4)) pa_nil)))))
      pss_nil)
      (pss_one (ps_ret (pe_callB (call_min2A rfl) (by rfl) Z_min (by decide +kernel) (pa_cons pe_int (pa_cons (pe_op op_add (pe_callB (cr_max rfl) (by rfl) Z_max (by decide +kernel) (pa_cons (pv 2) pa_nil)) (pv 4)) pa_nil)))))))))), ?_⟩
    walk_at "go"
    refine x_lock hd trivial (fun od => ?_)
    walk_at "go"
    refine runK upd_same ?_
    intro D hD
    have hDd : D ≠ d := fun z => by rw [z, upd_same] at hD; cases hD
    have hD0 : H D = none := by rw [upd_ne hDd] at hD; exact hD
    refine lcK (fun i H' => But D (upd H d (.frz od (.dK (strK V.int l)))) H' ∧ H' D = some (.lst ((l.take i).map fun q => V.int q.2))) ?_ ?_ ?_ ?_
    · exact ⟨But.refl.at_, upd_same⟩
    · exact fun i H' _ hv => hv.1 d _ upd_same hDd.symm
    · rintro i k0 v0 H' hi ⟨hb1, hD1⟩
      obtain ⟨z, x, rfl, rfl, hlx⟩ := strK_at hi
      walk_at "go"
      refine ⟨rfl, ?_⟩
      walk_at "go"
      refine x_getS (kvs := strK V.int l) (.inr ⟨od, hb1 d _ upd_same hDd.symm⟩) (strK_val hnd hlx) ?_
      refine ⟨_, hD1, sz_lt ?_, hb1.at_, ?_⟩
      · simp; omega
      · rw [upd_same, take_succ_get hlx]
        simp
    · rintro H' ⟨hb1, hD1⟩
      refine ⟨hb1 d _ upd_same hDd.symm, ?_⟩
      have eL : (strK V.int l).length = l.length := List.length_map ..
      rw [eL, List.take_length] at hD1
      have hD2 : (upd H' d (.dK (strK V.int l))) D = some (.lst (l.map fun q => V.int q.2)) := by rw [upd_ne hDd]; exact hD1
      have b0 : L2.Same H (upd H' d (.dK (strK V.int l))) := fun b o e => by
        by_cases hbd : b = d
        · subst hbd
          rw [hd] at e
          rw [upd_same, e]
        · rw [upd_ne hbd]
          exact hb1 b o (by rw [upd_ne hbd]; exact e) (ne_of_none e hD0)
      generalize hH2 : upd H' d (.dK (strK V.int l)) = H2 at hD2 b0 ⊢
      have p2 : PoolAt H2 p := hp.same b0
      have npD : D ≠ p := fun z => by obtain ⟨ns, e, ok⟩ := hp; rw [z, e] at hD0; cases hD0
      walk_at "go"
      refine ⟨p, 2, rfl, p2, by decide, by decide, fun H3 j b3 p3 j0 j1 => ?_⟩
      walk_at "go"
      refine ⟨p, 3, rfl, p3, by decide, by decide, fun H4 gp b4 p4 g0 g1 => ?_⟩
      have hD4 : H4 D = some (.lst (l.map fun q => V.int q.2)) := b4 D _ (b3 D _ hD2 npD) npD
      have bb : But p H H4 := (But.of_same b0).trans (b3.trans b4)
      have eV : (l.map fun q => V.int q.2) = (l.map (·.2)).map V.int := (List.map_map ..).symm
      walk_at "go"
      refine x_dec (fun hc => ?_) (fun hc => ?_)
      · have hl : l = [] := by
          cases l with
          | nil => rfl
          | cons a r => simp at hc; omega
        walk_at "go"
        exact k _ _ bb p4 (by omega) (by omega) (.inl (by rw [hl]; simp))
      · have hpos : 0 < (l.map (·.2)).length := by
          rw [List.length_map]
          cases l with
          | nil => simp at hc
          | cons a r => simp
        walk_at "go"
        refine x_dec (fun hs => ?_) (fun hs => ?_)
        · walk_at "go"
          refine ⟨D, l.map (·.2), rfl, by rw [← eV]; exact SqL.of hD4, hpos, fun mm hm hle => ?_⟩
          obtain ⟨q, hq, hqm⟩ := List.mem_map.mp hm
          have hbq := hb q hq
          walk_at "go"
          refine k _ _ bb p4 ?_ ?_ (.inl fun y hy => ?_)
          · split <;> omega
          · split <;> omega
          · have h1 := hle y.2 (List.mem_map.mpr ⟨y, hy, rfl⟩)
            have h2 := hb y hy
            split <;> omega
        · walk_at "go"
          refine ⟨D, l.map (·.2), rfl, by rw [← eV]; exact SqL.of hD4, hpos, fun mm hm hle => ?_⟩
          obtain ⟨q, hq, hqm⟩ := List.mem_map.mp hm
          have hbq := hb q hq
          walk_at "go"
          refine k _ _ bb p4 ?_ ?_ (.inr fun y hy => ?_)
          · split <;> omega
          · split <;> omega
          · have h1 := hle y.2 (List.mem_map.mpr ⟨y, hy, rfl⟩)
            have h2 := hb y hy
            split <;> omega
end
/-! ### integers and names -/
def isIntK : Kn → Bool
  | .int => true
  | _ => false
def nameL : List Nat → Bool
  | [] => false
  | d :: r => decide (r.length ≤ 7) && (decide (lowC d) && r.all fun e => decide (sgnC e))
def nameV : V → Bool
  | .str z => nameL z.cps.toList
  | _ => false
theorem nameL_iff {l : List Nat} : nameL l = true ↔ NameL l := by
  cases l with
  | nil =>
    refine ⟨fun h => (by cases h), fun h => ?_⟩
    obtain ⟨d, r, e, _⟩ := h
    cases e
  | cons d r =>
    show (decide (r.length ≤ 7) && (decide (lowC d) && r.all fun e => decide (sgnC e))) = true ↔ _
    rw [Bool.and_eq_true, Bool.and_eq_true, decide_eq_true_iff, decide_eq_true_iff, List.all_eq_true]
    refine ⟨fun ⟨h1, h2, h3⟩ => ⟨d, r, rfl, h2, h1, fun e he => of_decide_eq_true (h3 e he)⟩, fun h => ?_⟩
    obtain ⟨d', r', e, h2, h1, h3⟩ := h
    injection e with e1 e2
    subst e1 e2
    exact ⟨h1, h2, fun e he => decide_eq_true (h3 e he)⟩
theorem NameS.v {z : Str} (h : NameS z) : nameV (.str z) = true := nameL_iff.mpr h
/-- a value of a known kind; a text not too long -/
def Fine (K : PySem.W.Frag) (H : Hp) (x : V) (k : Kn) : Prop := Kd K H x k ∧ ∀ z, x = .str z → z.length ≤ 10000
def spIsInt (K : PySem.W.Frag) : Sp := fun vs H Q _ => ∃ x k, vs = [x] ∧ Kd K H x k ∧ Q (.bl (isIntK k)) H
def spIsName (K : PySem.W.Frag) : Sp := fun vs H Q _ => ∃ x k, vs = [x] ∧ Fine K H x k ∧ Q (.bl (nameV x)) H
section
variable {P : Program} {w : World} {K : PySem.W.Frag} {mg : Str → Option Value} {base : Heap}
theorem ok_is_integer {f : Addr} {fd : FuncData} (F : Fun K "is_integer" "is_integer" s_is_integer f fd) (Z_int : mg "int" = none) (Z_bool : mg "bool" = none) (Z_isinstance : mg "isinstance" = none) : FnOk P w K mg base CX0 1 f fd ["thing"] (spIsInt K) := by
  refine F.ok sc_is_integer (fun vs H Q E h => ?_) (fun cdv A outer s H vs Q E hr h => ?_)
  · obtain ⟨_, _, rfl, _⟩ := h
    rfl
  · obtain ⟨x, k, rfl, hk, q⟩ := h
    refine ⟨_, (pss_one (ps_ret (pe_and (pe_callB call_isi (by rfl) Z_isinstance (by decide +kernel) (pa_cons (pv 0) (pa_cons (pe_bltn (v := .ty "int") (by rfl) Z_int (by decide +kernel) rfl) pa_nil))) (pe_one (pe_not (pe_callB call_isi (by rfl) Z_isinstance (by decide +kernel) (pa_cons (pv 0) (pa_cons (pe_bltn (v := .ty "bool") (by rfl) Z_bool (by decide +kernel) rfl) pa_nil)))))))), ?_⟩
    walk_at "go"
    refine x_isiInt hk ?_
    walk_at "go"
    cases k
    case int =>
      refine x_T ?_
      walk_at "go"
      refine x_isiBool hk ?_
      walk_at "go"
      exact q
    case bl =>
      refine x_T ?_
      walk_at "go"
      refine x_isiBool hk ?_
      walk_at "go"
      exact q
    all_goals
      refine x_F ?_
      exact q
theorem ok_is_name {f : Addr} {fd : FuncData} (F : Fun K "is_name" "is_name" s_is_name f fd) (Z_str : mg "str" = none) (Z_len : mg "len" = none) (Z_isinstance : mg "isinstance" = none) : FnOk P w K mg base CX0 1 f fd ["thing"] (spIsName K) := by
  refine F.ok sc_is_name (fun vs H Q E h => ?_) (fun cdv A outer s H vs Q E hr h => ?_)
  · obtain ⟨_, _, rfl, _⟩ := h
    rfl
  · obtain ⟨x, k, rfl, ⟨hk, hz⟩, q⟩ := h
    refine ⟨_, (pss_cons (ps_if (PW.pt (pw_or (pt_not (pt_val (pe_callB call_isi (by rfl) Z_isinstance (by decide +kernel) (pa_cons (pv 0) (pa_cons (pe_bltn (v := .ty "str") (by rfl) Z_str (by decide +kernel) rfl) pa_nil))))) (pw_or1 (pt_not (pt_chain op_le op_le pe_int (pe_callB call_lenA (by rfl) Z_len (by decide +kernel) (pa_cons (pv 0) pa_nil)) pe_int)))))
      (pss_one (ps_ret pe_bl))
      pss_nil)
      (pss_cons (ps_if (pt_not (pt_chain op_leS op_leS pe_str (pe_ix ix_str (pv 0) pe_int (fun _ _ => rfl)) pe_str))
      (pss_one (ps_ret pe_bl))
      pss_nil)
      (pss_cons (ps_for PassesOwn.never rfl (pi_str (pv 0)) (pg_name (i := 1) sc_is_name.nd rfl (Or.inl rfl))
      (pss_one (ps_if (PW.pt (pw_and (pt_not (pt_chain op_leS op_leS pe_str (pv 1) pe_str)) (pw_and1 (pt_not (pt_chain op_leS op_leS pe_str (pv 1) pe_str)))))
      (pss_one (ps_ret pe_bl))
      pss_nil)))
      (pss_one (ps_ret pe_bl))))), ?_⟩
    walk_at "go"
    refine x_isiStr hk ?_
    walk_at "go"
    have other : ∀ {x}, (∀ z, x ≠ V.str z) → nameV x = false := fun {x} h => by
      cases x with
      | str z => exact absurd rfl (h z)
      | _ => rfl
    cases hk with
    | str z =>
      have hzl := hz z rfl
      have hzs : z.length ≤ sizeLine := sz_le hzl
      refine x_nT ?_
      walk_at "go"
      refine x_lenS hzs ?_
      walk_at "go"
      have el := str_len z
      refine x_dec (fun h1 => ?_) (fun h1 => ?_)
      · walk_at "go"
        refine x_ndec (fun h8 => ?_) (fun h8 => ?_)
        · walk_at "go"
          have e : nameV (.str z) = false := by
            show nameL z.cps.toList = false
            cases ez : z.cps.toList with
            | nil => rfl
            | cons d r =>
              rw [el, ez] at h8
              simp at h8
              show (decide (r.length ≤ 7) && _) = false
              rw [decide_eq_false (by omega)]
              rfl
          rw [e] at q
          exact q
        · walk_at "go"
          cases ez : z.cps.toList with
          | nil =>
            rw [el, ez] at h1
            simp at h1
          | cons d r =>
            have hl7 : r.length ≤ 7 := by
              rw [el, ez] at h8
              simp at h8
              omega
            refine x_ixs 0 hzs rfl (by rw [ez]; rfl) ?_
            refine x_leL 97 chr_a ?_
            walk_at "go"
            have neg : ¬ lowC d → Q (.bl false) H := fun hn => by
              have e : nameV (.str z) = false := by
                show nameL z.cps.toList = false
                rw [ez]
                show (decide (r.length ≤ 7) && (decide (lowC d) && _)) = false
                rw [decide_eq_false hn]
                simp
              rw [e] at q
              exact q
            refine x_dec (fun ha => ?_) (fun ha => ?_)
            · walk_at "go"
              refine x_leR 122 chr_z ?_
              walk_at "go"
              refine x_ndec (fun hb => ?_) (fun hb => ?_)
              · walk_at "go"
                exact neg fun hl => hb hl.2
              · walk_at "go"
                have hlow : lowC d := ⟨ha, hb⟩
                refine lpS (fun i σ H' => ∃ v, σ = [some (.str z), v] ∧ H' = H ∧ ∀ j < i, ∃ e, (d :: r)[j]? = some e ∧ sgnC e) ?_ ?_ ?_
                · exact ⟨none, rfl, rfl, fun j hj => absurd hj (by omega)⟩
                · rintro i e σ H' hi ⟨v, rfl, rfl, hall⟩
                  have hi2 : (d :: r)[i]? = some e := by rw [← ez, Array.getElem?_toList]; exact hi
                  have bad : ¬ sgnC e → Q (.bl false) H' := fun hn => by
                    have e0 : nameV (.str z) = false := by
                      show nameL z.cps.toList = false
                      rw [ez]
                      cases i with
                      | zero =>
                        have : d = e := Option.some.inj hi2
                        subst this
                        exact absurd (.inl hlow) hn
                      | succ i =>
                        have hm : e ∈ r := List.mem_of_getElem? (i := i) hi2
                        have : (r.all fun e => decide (sgnC e)) = false := by
                          cases ea : (r.all fun e => decide (sgnC e)) with
                          | false => rfl
                          | true => exact absurd (of_decide_eq_true (List.all_eq_true.mp ea e hm)) hn
                        show (decide (r.length ≤ 7) && (decide (lowC d) && (r.all fun e => decide (sgnC e)))) = false
                        rw [this]
                        simp
                    rw [e0] at q
                    exact q
                  have good : sgnC e → ∀ j < i + 1, ∃ e, (d :: r)[j]? = some e ∧ sgnC e := fun hg j hj => by
                    by_cases ej : j = i
                    · subst ej; exact ⟨e, hi2, hg⟩
                    · exact hall j (by omega)
                  walk_at "go"
                  refine x_leL 97 chr_a ?_
                  walk_at "go"
                  have second : ¬ (97 ≤ e ∧ e ≤ 122) → (48 ≤ e ∧ e ≤ 57 → sgnC e) := fun _ h => .inr h
                  refine x_dec (fun ha => ?_) (fun ha => ?_)
                  · walk_at "go"
                    refine x_leR 122 chr_z ?_
                    walk_at "go"
                    refine x_ndec (fun hb => ?_) (fun hb => ?_)
                    · walk_at "go"
                      refine x_leL 48 chr_0 ?_
                      walk_at "go"
                      refine x_dec (fun hc => ?_) (fun hc => ?_)
                      · walk_at "go"
                        refine x_leR 57 chr_9 ?_
                        walk_at "go"
                        refine x_ndec (fun hd => ?_) (fun hd => ?_)
                        · walk_at "go"
                          exact bad fun hs => by rcases hs with hs | hs <;> omega
                        · walk_at "go"
                          exact ⟨_, rfl, rfl, good (.inr ⟨hc, hd⟩)⟩
                      · walk_at "go"
                        exact bad fun hs => by rcases hs with hs | hs <;> omega
                    · walk_at "go"
                      exact ⟨_, rfl, rfl, good (.inl ⟨ha, hb⟩)⟩
                  · walk_at "go"
                    refine x_leL 48 chr_0 ?_
                    walk_at "go"
                    refine x_dec (fun hc => ?_) (fun hc => ?_)
                    · walk_at "go"
                      refine x_leR 57 chr_9 ?_
                      walk_at "go"
                      refine x_ndec (fun hd => ?_) (fun hd => ?_)
                      · walk_at "go"
                        exact bad fun hs => by rcases hs with hs | hs <;> omega
                      · walk_at "go"
                        exact ⟨_, rfl, rfl, good (.inr ⟨hc, hd⟩)⟩
                    · walk_at "go"
                      exact bad fun hs => by rcases hs with hs | hs <;> omega
                · rintro σ H' ⟨v, rfl, rfl, hall⟩
                  walk_at "go"
                  have e : nameV (.str z) = true := by
                    refine nameL_iff.mpr ⟨d, r, ez, hlow, hl7, fun e he => ?_⟩
                    obtain ⟨j, hj, hje⟩ := List.getElem_of_mem he
                    obtain ⟨e', h1, h2⟩ := hall (j + 1) (by
                      have : z.cps.size = (d :: r).length := by rw [← ez]; simp
                      rw [this]
                      simp
                      exact hj)
                    have h3 : (d :: r)[j + 1]? = some e := by
                      show r[j]? = some e
                      rw [List.getElem?_eq_getElem hj, hje]
                    rw [h3] at h1
                    cases h1
                    exact h2
                  rw [e] at q
                  exact q
            · walk_at "go"
              exact neg fun hl => ha hl.1
      · walk_at "go"
        have e : nameV (.str z) = false := by
          show nameL z.cps.toList = false
          cases ez : z.cps.toList with
          | nil => rfl
          | cons d r =>
            rw [el, ez] at h1
            simp at h1
            omega
        rw [e] at q
        exact q
    | non => rw [other (fun z => by simp)] at q; refine x_nF ?_; walk_at "go"; exact q
    | bl b => rw [other (fun z => by simp)] at q; refine x_nF ?_; walk_at "go"; exact q
    | int i => rw [other (fun z => by simp)] at q; refine x_nF ?_; walk_at "go"; exact q
    | lst h => rw [other (fun z => by simp)] at q; refine x_nF ?_; walk_at "go"; exact q
    | tup h => rw [other (fun z => by simp)] at q; refine x_nF ?_; walk_at "go"; exact q
    | dict h => rw [other (fun z => by simp)] at q; refine x_nF ?_; walk_at "go"; exact q
end
/-! ### things, right or odd -/
/-- what stands in H' and not in H -/
def nw (H H' : Hp) : Hp := fun a => match H a with
  | none => H' a
  | some _ => none
theorem nw_at {H H' : Hp} {a : Addr} (h : H a = none) : nw H H' a = H' a := by
  unfold nw
  rw [h]
theorem nw_some {H H' : Hp} {a : Addr} {o : HO} (h : nw H H' a = some o) : H a = none ∧ H' a = some o := by
  unfold nw at h
  cases e : H a with
  | none => rw [e] at h; exact ⟨rfl, h⟩
  | some u => rw [e] at h; cases h
/-- H1's own places are H's, and what is new in H1' stands in H'' -/
theorem nw_same {H H1 H' H'' : Hp} (h1 : ∀ a, H1 a = none → H a = none) (h2 : ∀ a o, H1 a = none → H' a = some o → H'' a = some o) : L2.Same (nw H1 H') (nw H H'') := fun a o h => by
  obtain ⟨e1, e2⟩ := nw_some h
  rw [nw_at (h1 a e1)]
  exact h2 a o e1 e2
theorem pool_some {H : Hp} {p : Addr} (h : PoolAt H p) : H p ≠ none := by
  exact fun z => h.ne z rfl
/-! ### displays of dicts -/
theorem x_disp {trs : List (TE × TE)} {σ : L2.St} {H : Hp} {Q : VK} (h : ∀ p, H p = none → tPairs trs σ (upd H p (.dK [])) fun ps H2 => H2 p = some (.dK []) ∧ ∃ kvs : List (Key × V), ps = kvs.map (fun kv => (kV kv.1, kv.2)) ∧ kvs.length ≤ 15 ∧ Q (.ref p) (upd H2 p (.dK (mergeK [] kvs)))) : tDisp trs σ H Q := h
theorem x_prs {tk tv : TE} {r : List (TE × TE)} {σ : L2.St} {H : Hp} {R : List (V × V) → Hp → Prop} (h : tk σ H fun x H1 => tv σ H1 fun y H2 => tPairs r σ H2 fun ps H3 => R ((x, y) :: ps) H3) : tPairs ((tk, tv) :: r) σ H R := h
theorem x_prs0 {σ : L2.St} {H : Hp} {R : List (V × V) → Hp → Prop} (h : R [] H) : tPairs [] σ H R := h
theorem merge1 {z : Str} {v : V} : mergeK [] [((Sum.inr z : Key), v)] = [(Sum.inr z, v)] := rfl
theorem merge2 {z y : Str} {v u : V} (n : z ≠ y) : mergeK [] [((Sum.inr z : Key), v), (Sum.inr y, u)] = [(Sum.inr z, v), (Sum.inr y, u)] := by
  show putK [((Sum.inr z : Key), v)] (Sum.inr y) u = _
  unfold putK
  rw [if_neg (by simp [n])]
  rfl
theorem nm_on : NameS "on" := nameL_iff.mp (by decide +kernel)
theorem nm_off : NameS "off" := nameL_iff.mp (by decide +kernel)
theorem nm_h : NameS "h" := nameL_iff.mp (by decide +kernel)
theorem nm_t : NameS "t" := nameL_iff.mp (by decide +kernel)
/-! ### repr of data with dicts of many kinds of keys -/
mutual
inductive ShU (w : World) (H : Hp) : V → PyData → Prop
  | non : ShU w H .non .none
  | bl (b : Bool) : ShU w H (.bl b) (.bool b)
  | int (i : Int) : ShU w H (.int i) (.int i)
  | str (x : Str) : ShU w H (.str x) (.str x)
  | lst {a : Addr} {xs : List V} {ds : List PyData} : Rd H a (.lst xs) → ShUA w H xs ds → ShU w H (.ref a) (.list ds)
  | tup {a : Addr} {xs : List V} {ds : List PyData} : H a = some (.tup xs) → ShUA w H xs ds → ShU w H (.ref a) (.tuple ds)
  | dM {a : Addr} {kvs : MV} {ks ds : List PyData} : MRd w H a kvs → ShUA w H (kvs.map (·.2.1)) ks → ShUA w H (kvs.map (·.2.2)) ds → ShU w H (.ref a) (.dict (ks.zip ds))
inductive ShUA (w : World) (H : Hp) : List V → List PyData → Prop
  | nil : ShUA w H [] []
  | cons {v : V} {d : PyData} {vs : List V} {ds : List PyData} : ShU w H v d → ShUA w H vs ds → ShUA w H (v :: vs) (d :: ds)
end
theorem ShUA.len {w : World} {H : Hp} : ∀ {vs : List V} {ds : List PyData}, ShUA w H vs ds → ds.length = vs.length
  | _, _, .nil => rfl
  | _, _, .cons _ r => by simp [r.len]
theorem mrd_ne {w : World} {H : Hp} {a : Addr} {kvs : MV} (m : MRd w H a kvs) : H a ≠ none := by
  rcases m with (z | ⟨o, z⟩) | ⟨ks, z | ⟨o, z⟩, _⟩ <;> rw [z] <;> simp
theorem rm_vals {kvs : MV} {xs : MX} (r : Paired RM kvs xs) : Vals (kvs.map (·.2.1)) (xs.map (·.2.1)) ∧ Vals (kvs.map (·.2.2)) (xs.map (·.2.2)) := by
  induction r with
  | nil => exact ⟨.nil, .nil⟩
  | cons h t ih => exact ⟨.cons h.2.1 ih.1, .cons h.2.2 ih.2⟩
mutual
theorem ShU.reads {P : Program} {w : World} {H : Hp} {h : Heap} (ok : HOk P w H h) : ∀ {v : V} {d : PyData}, ShU w H v d → ∀ {u : Value}, RelV v u → ∃ as, Reads h u d as ∧ ∀ b ∈ as, H b ≠ none
  | _, _, .non, u, r => by
    obtain rfl : u = Value.none := r
    exact ⟨[], .none, fun b hb => by cases hb⟩
  | _, _, .bl b, u, r => by
    obtain rfl : u = Value.bool b := r
    exact ⟨[], .bool b, fun b hb => by cases hb⟩
  | _, _, .int i, u, r => by
    obtain ⟨t, rfl⟩ := r
    exact ⟨[], .int i t, fun b hb => by cases hb⟩
  | _, _, .str x, u, r => by
    obtain ⟨t, rfl⟩ := r
    exact ⟨[], .str x t, fun b hb => by cases hb⟩
  | _, _, .lst (a := a) (xs := xs) ha hs, u, r => by
    obtain rfl : u = Value.ref a := r
    obtain ⟨_, its, n, rv, hg⟩ := ha.ok ok
    obtain ⟨as, hr, hn⟩ := ShUA.reads ok hs rv
    refine ⟨a :: as, .list hg rfl rfl hr, fun b hb => ?_⟩
    rcases List.mem_cons.mp hb with rfl | hb
    · rcases ha with z | ⟨o, z⟩ <;> rw [z] <;> simp
    · exact hn b hb
  | _, _, .tup (a := a) ha hs, u, r => by
    obtain rfl : u = Value.ref a := r
    obtain ⟨_, its, rv, o, hg, hc, n, hd⟩ := ok a _ ha
    obtain ⟨as, hr, hn⟩ := ShUA.reads ok hs rv
    exact ⟨as, .tuple hg hc hd hr, hn⟩
  | _, _, .dM (a := a) (kvs := kvs) (ks := ks) (ds := ds) ha hk hs, u, r => by
    obtain rfl : u = Value.ref a := r
    obtain ⟨_, _, xs, rel, o, es, ep, hg, hx, hd, he, _⟩ := ha.ph ok
    obtain ⟨r1, r2⟩ := rm_vals rel
    obtain ⟨as, hr1, hn1⟩ := ShUA.reads ok hk r1
    obtain ⟨bs, hr2, hn2⟩ := ShUA.reads ok hs r2
    have el : ks.length = ds.length := by rw [hk.len, hs.len, List.length_map, List.length_map]
    refine ⟨a :: as ++ bs, .dict hg hx.1 hd ?_ ?_, fun b hb => ?_⟩
    · rw [he, List.map_map, List.map_fst_zip (Nat.le_of_eq el)]
      exact hr1
    · rw [he, List.map_map, List.map_snd_zip (Nat.le_of_eq el.symm)]
      exact hr2
    · rcases List.mem_append.mp hb with hb | hb
      · rcases List.mem_cons.mp hb with rfl | hb
        · exact mrd_ne ha
        · exact hn1 b hb
      · exact hn2 b hb
theorem ShUA.reads {P : Program} {w : World} {H : Hp} {h : Heap} (ok : HOk P w H h) : ∀ {vs : List V} {ds : List PyData}, ShUA w H vs ds → ∀ {us : List Value}, Vals vs us → ∃ as, ReadsAll h us ds as ∧ ∀ b ∈ as, H b ≠ none
  | _, _, .nil, us, r => by
    cases r
    exact ⟨[], .nil, fun b hb => by cases hb⟩
  | _, _, .cons hv hs, us, r => by
    cases r with
    | cons r1 r2 =>
      obtain ⟨as, h1, n1⟩ := ShU.reads ok hv r1
      obtain ⟨bs, h2, n2⟩ := ShUA.reads ok hs r2
      exact ⟨as ++ bs, .cons h1 h2, fun b hb => (List.mem_append.mp hb).elim (n1 b) (n2 b)⟩
end
mutual
theorem ShU.same {w : World} {H H' : Hp} (s : L2.Same H H') : ∀ {v : V} {d : PyData}, ShU w H v d → ShU w H' v d
  | _, _, .non => .non
  | _, _, .bl b => .bl b
  | _, _, .int i => .int i
  | _, _, .str x => .str x
  | _, _, .lst h hs => .lst (rd_same s h) (ShUA.same s hs)
  | _, _, .tup h hs => .tup (s _ _ h) (ShUA.same s hs)
  | _, _, .dM h hk hs => .dM (h.same s) (ShUA.same s hk) (ShUA.same s hs)
theorem ShUA.same {w : World} {H H' : Hp} (s : L2.Same H H') : ∀ {vs : List V} {ds : List PyData}, ShUA w H vs ds → ShUA w H' vs ds
  | _, _, .nil => .nil
  | _, _, .cons h hs => .cons (ShU.same s h) (ShUA.same s hs)
end
def rReprU (w : World) : List V → Hp → VK → Prop := fun xs H Q => ∃ (v : V) (d : PyData), xs = [v] ∧ ShU w H v d ∧ d.showable = true ∧ d.depth ≤ 64 ∧ d.shown.length ≤ sizeLine ∧ Q (.str d.shown) H
theorem call_reprU {X : Cx} (hg : X.A.guards = some []) (hu : X.A.units + 100 < cLine) (hm : (X.K.lookup sysModules).isSome = true) : CallR X (.builtin "repr") (rReprU X.w) := by
  intro pins s σ H xs us Q I r h
  obtain ⟨v, d, rfl, sh, hs, hd, hz, q⟩ := h
  obtain ⟨u, rfl, ru⟩ := vals1 r
  have deep : ∀ a, v = .ref a → wpAny (model X.prog X.w) X.A (call (.builtin "repr") [u]) (EP X pins σ Q) X.xe s := by
    rintro a rfl
    obtain rfl : u = Value.ref a := ru
    obtain ⟨as, hr, hn⟩ := sh.reads I.hok rfl
    obtain ⟨o, ho⟩ := Option.isSome_iff_exists.mp hm
    have nm : sysModules ∉ as := fun z => hn _ z (I.bs _ _ (I.mod.kin _ _ ho)).2
    exact repr_of_reads' hr hs (fun _ => nm) hg (by omega) (fun _ _ e => e) (fun h' u tk k => ⟨.str _, H, I.kept k, ⟨_, rfl⟩, q⟩) hz
  cases sh with
  | non =>
    obtain rfl : u = Value.none := ru
    exact PySem.P.repr_of_none ⟨.str _, H, I.tok _, ⟨_, rfl⟩, q⟩
  | bl b =>
    obtain rfl : u = Value.bool b := ru
    exact PySem.P.repr_of_bool ⟨.str _, H, I.tok _, ⟨_, rfl⟩, q⟩
  | int i =>
    obtain ⟨t, rfl⟩ := ru
    exact PySem.P.repr_of_int (of_decide_eq_true hs) ⟨.str _, H, I.tok _, ⟨_, rfl⟩, q⟩
  | str x =>
    obtain ⟨t, rfl⟩ := ru
    exact PySem.P.repr_of_str ⟨.str _, H, I.tok _, ⟨_, rfl⟩, q⟩ hz
  | lst _ _ => exact deep _ rfl
  | tup _ _ => exact deep _ rfl
  | dM _ _ _ => exact deep _ rfl
/-- what stands at v is small data, shown in B signs, n levels deep -/
def Sml (w : World) (H : Hp) (n B : Nat) (v : V) : Prop := ∃ d, ShU w H v d ∧ d.showable = true ∧ d.depth ≤ n ∧ d.shown.length ≤ B
theorem Sml.same {w : World} {H H' : Hp} {n B : Nat} {v : V} (s : L2.Same H H') (h : Sml w H n B v) : Sml w H' n B v := let ⟨d, a, b⟩ := h; ⟨d, a.same s, b⟩
theorem Sml.mono {w : World} {H : Hp} {n B m C : Nat} {v : V} (h : Sml w H n B v) (h1 : n ≤ m) (h2 : B ≤ C) : Sml w H m C v := let ⟨d, a, b, c, e⟩ := h; ⟨d, a, b, Nat.le_trans c h1, Nat.le_trans e h2⟩
theorem smlA {w : World} {H : Hp} {n B : Nat} : ∀ {xs : List V}, (∀ y ∈ xs, Sml w H n B y) → ∃ ds, ShUA w H xs ds ∧ PyData.showableAll ds = true ∧ PyData.depthAll ds ≤ n ∧ ((PyData.shownAll ds).map (·.length)).sum ≤ xs.length * B ∧ (PyData.shownAll ds).length = xs.length
  | [], _ => ⟨[], .nil, rfl, Nat.zero_le _, Nat.zero_le _, rfl⟩
  | y :: r, h => by
    obtain ⟨d, h1, h2, h3, h4⟩ := h y List.mem_cons_self
    obtain ⟨ds, g1, g2, g3, g4, g5⟩ := smlA fun z hz => h z (List.mem_cons_of_mem _ hz)
    refine ⟨d :: ds, .cons h1 g1, ?_, ?_, ?_, ?_⟩
    · show (d.showable && PyData.showableAll ds) = true
      rw [h2, g2]; rfl
    · show max d.depth (PyData.depthAll ds) ≤ n
      omega
    · show ((d.shown :: PyData.shownAll ds).map (·.length)).sum ≤ (r.length + 1) * B
      rw [List.map_cons, List.sum_cons, Nat.succ_mul]
      omega
    · show (d.shown :: PyData.shownAll ds).length = _
      rw [List.length_cons, List.length_cons, g5]
theorem sml_row {w : World} {H : Hp} {n B : Nat} {a : Addr} {xs : List V} (ha : Rd H a (.lst xs) ∨ H a = some (.tup xs)) (h : ∀ y ∈ xs, Sml w H n B y) : Sml w H (n + 1) (xs.length * (B + 2) + 3) (.ref a) := by
  obtain ⟨ds, g1, g2, g3, g4, g5⟩ := smlA h
  have key : ((PyData.shownAll ds).map (·.length)).sum + 2 * (PyData.shownAll ds).length + 3 ≤ xs.length * (B + 2) + 3 := by
    rw [g5, Nat.mul_add]
    omega
  rcases ha with ha | ha
  · exact ⟨_, .lst ha g1, g2, by show PyData.depthAll ds + 1 ≤ n + 1; omega, Nat.le_trans (listText_len_le _) key⟩
  · exact ⟨_, .tup ha g1, g2, by show PyData.depthAll ds + 1 ≤ n + 1; omega, Nat.le_trans (tupleText_len_le _) key⟩
theorem smlKv {w : World} {H : Hp} {n B : Nat} : ∀ {kvs : MV}, (∀ p ∈ kvs, Sml w H n B p.2.1 ∧ Sml w H n B p.2.2) → ∃ ks ds, ShUA w H (kvs.map (·.2.1)) ks ∧ ShUA w H (kvs.map (·.2.2)) ds ∧ PyData.showableKv (ks.zip ds) = true ∧ PyData.depthKv (ks.zip ds) ≤ n ∧
    ((PyData.shownKv (ks.zip ds)).map (·.length)).sum ≤ kvs.length * (2 * B + 2) ∧ (PyData.shownKv (ks.zip ds)).length = kvs.length
  | [], _ => ⟨[], [], .nil, .nil, rfl, Nat.zero_le _, Nat.zero_le _, rfl⟩
  | p :: r, h => by
    obtain ⟨⟨d, h1, h2, h3, h4⟩, ⟨e, k1, k2, k3, k4⟩⟩ := h p List.mem_cons_self
    obtain ⟨ks, ds, g1, g2, g3, g4, g5, g6⟩ := smlKv fun z hz => h z (List.mem_cons_of_mem _ hz)
    refine ⟨d :: ks, e :: ds, .cons h1 g1, .cons k1 g2, ?_, ?_, ?_, ?_⟩
    · show (d.showable && e.showable && PyData.showableKv (ks.zip ds)) = true
      rw [h2, k2, g3]; rfl
    · show PyData.depthKv ((d, e) :: ks.zip ds) ≤ n
      simp only [PyData.depthKv]
      omega
    · show ((((d.shown ++ ": " ++ e.shown) :: PyData.shownKv (ks.zip ds)).map (·.length)).sum ≤ (r.length + 1) * (2 * B + 2))
      rw [List.map_cons, List.sum_cons, Nat.succ_mul, strLen_append, strLen_append]
      have : (": " : Str).length = 2 := rfl
      omega
    · show (_ :: PyData.shownKv (ks.zip ds)).length = _
      rw [List.length_cons, List.length_cons, g6]
theorem sml_dict {w : World} {H : Hp} {n B : Nat} {a : Addr} {kvs : MV} (ha : MRd w H a kvs) (h : ∀ p ∈ kvs, Sml w H n B p.2.1 ∧ Sml w H n B p.2.2) : Sml w H (n + 1) (kvs.length * (2 * B + 4) + 3) (.ref a) := by
  obtain ⟨ks, ds, g1, g2, g3, g4, g5, g6⟩ := smlKv h
  refine ⟨_, .dM ha g1 g2, g3, by show PyData.depthKv (ks.zip ds) + 1 ≤ n + 1; omega, Nat.le_trans (dictText_len_le _) ?_⟩
  rw [g6, show kvs.length * (2 * B + 4) = kvs.length * (2 * B + 2) + 2 * kvs.length by rw [show 2 * B + 4 = (2 * B + 2) + 2 by omega, Nat.mul_add]; omega]
  omega
theorem x_reprU {w : World} {H : Hp} {Q : VK} {n B : Nat} {v : V} (h : Sml w H n B v) (hn : n ≤ 64) (hB : B ≤ 100000) (q : ∀ z, (∀ H', L2.Same H H' → ∀ Q' : VK, Q' (.str z) H' → rReprU w [v] H' Q') → Q (.str z) H) : rReprU w [v] H Q := by
  obtain ⟨d, a, b, c, e⟩ := h
  have hz : d.shown.length ≤ sizeLine := by rw [sizeLine_eq]; omega
  exact ⟨v, d, rfl, a, b, Nat.le_trans c hn, hz, q _ fun H' s Q' q' => ⟨v, d, rfl, a.same s, b, Nat.le_trans c hn, hz, q'⟩⟩
/-! ### dicts of many kinds of keys, asked -/
def rMGetA (K : PySem.W.Frag) (w : World) (x y : V) (H : Hp) (Q : VK) : Prop := ∃ a v, x = .ref a ∧ MGet K w H a y (some v) ∧ Q v H
def rMinA (K : PySem.W.Frag) (w : World) (y x : V) (H : Hp) (Q : VK) : Prop := ∃ a o, x = .ref a ∧ MGet K w H a y o ∧ Q (.bl o.isSome) H
def rMninA (K : PySem.W.Frag) (w : World) (y x : V) (H : Hp) (Q : VK) : Prop := ∃ a o, x = .ref a ∧ MGet K w H a y o ∧ Q (.bl (!o.isSome)) H
def rMputA (K : PySem.W.Frag) (w : World) (x y v : V) (H : Hp) (N : Hp → Prop) : Prop := ∃ a kvs k, x = .ref a ∧ MWr w H a kvs ∧ KeysOk K H kvs ∧ KeyV K H k y ∧ k.depth ≤ 8 ∧ kvs.length < sizeLine ∧ N (upd H a (dM w a (putM kvs k y v)))
/-- a dict of many kinds of keys, with what may be asked of it -/
structure MDict (K : PySem.W.Frag) (w : World) (H : Hp) (a : Addr) (kvs : MV) : Prop where
  rd : MRd w H a kvs
  ks : KeysOk K H kvs
theorem KeysOk.same {K : PySem.W.Frag} {H H' : Hp} {kvs : MV} (s : L2.Same H H') (h : KeysOk K H kvs) : KeysOk K H' kvs := h.via fun _ _ => same_t s
theorem KeyV.same {K : PySem.W.Frag} {H H' : Hp} {k : NestedKey} {v : V} (s : L2.Same H H') (h : KeyV K H k v) : KeyV K H' k v := h.via fun _ _ => same_t s
theorem MDict.same {K : PySem.W.Frag} {w : World} {H H' : Hp} {a : Addr} {kvs : MV} (s : L2.Same H H') (h : MDict K w H a kvs) : MDict K w H' a kvs := ⟨h.rd.same s, KeysOk.same s h.ks⟩
theorem MDict.dK {K : PySem.W.Frag} {w : World} {H : Hp} {a : Addr} {ks : List (Key × V)} (h : Rd H a (.dK ks)) : MDict K w H a (ks.map toM) := ⟨.inr ⟨ks, h, rfl⟩, keysOk_dK _ _ _⟩
section
variable {K : PySem.W.Frag} {w : World} {σ : L2.St} {H : Hp} {Q : VK} {td ty tv : TE} {a : Addr} {kvs : MV} {z : Str} {v : V} {n : L2.St → Hp → Prop} {r : VK} {b c : L2.St → Hp → Prop}
theorem x_mget (h : td σ H fun x H1 => ty σ H1 fun y H2 => rMGetA K w x y H2 Q) : tMGet K w td ty σ H Q := h
theorem x_min (h : ty σ H fun y H1 => td σ H1 fun x H2 => rMinA K w y x H2 Q) : tMIn K w ty td σ H Q := h
theorem x_mnin (h : ty σ H fun y H1 => td σ H1 fun x H2 => rMninA K w y x H2 Q) : tMNotIn K w ty td σ H Q := h
theorem x_mput (h : tv σ H fun v H1 => td σ H1 fun x H2 => ty σ H2 fun y H3 => rMputA K w x y v H3 fun H4 => n σ H4) : sMPut K w td ty tv ⟨n, r, b, c⟩ σ H := h
theorem x_mgetS (m : MDict K w H a kvs) (e : valM kvs (.text z) = some v) (q : Q v H) : rMGetA K w (.ref a) (.str z) H Q := ⟨a, v, rfl, ⟨kvs, .text z, m.rd, m.ks, .text z, Nat.zero_le _, e.symm⟩, q⟩
theorem x_minS (m : MDict K w H a kvs) (q : Q (.bl (valM kvs (.text z)).isSome) H) : rMinA K w (.str z) (.ref a) H Q := ⟨a, _, rfl, ⟨kvs, .text z, m.rd, m.ks, .text z, Nat.zero_le _, rfl⟩, q⟩
theorem x_mninS (m : MDict K w H a kvs) (q : Q (.bl (!(valM kvs (.text z)).isSome)) H) : rMninA K w (.str z) (.ref a) H Q := ⟨a, _, rfl, ⟨kvs, .text z, m.rd, m.ks, .text z, Nat.zero_le _, rfl⟩, q⟩
end
theorem val_mem {kvs : MV} {k : NestedKey} {v : V} (h : valM kvs k = some v) : ∃ p ∈ kvs, p.1 = k ∧ p.2.2 = v := by
  induction kvs with
  | nil => cases h
  | cons p r ih =>
    rw [valM] at h
    by_cases e : p.1 = k
    · rw [if_pos e] at h
      exact ⟨p, List.mem_cons_self, e, Option.some.inj h⟩
    · rw [if_neg e] at h
      obtain ⟨q, hq, z⟩ := ih h
      exact ⟨q, List.mem_cons_of_mem _ hq, z⟩
/-- a dict with text keys, told as one of many kinds -/
def mS (m : List (Str × V)) : MV := (strK (fun v => v) m).map toM
theorem mS_cons (z : Str) (v : V) (r : List (Str × V)) : mS ((z, v) :: r) = (.text z, .str z, v) :: mS r := rfl
theorem mS_val (m : List (Str × V)) (z : Str) : valM (mS m) (.text z) = m.lookup z := by
  induction m with
  | nil => rfl
  | cons p r ih =>
    obtain ⟨y, v⟩ := p
    rw [mS_cons, valM, List.lookup_cons]
    by_cases e : y = z
    · subst e
      rw [if_pos rfl]
      simp
    · rw [if_neg (fun q => e (by injection q)), ih, beq_eq_false_iff_ne.mpr (Ne.symm e)]
theorem mS_len (m : List (Str × V)) : (mS m).length = m.length := by unfold mS; rw [List.length_map, List.length_map]
theorem mS_mem {m : List (Str × V)} {p : NestedKey × V × V} (h : p ∈ mS m) : ∃ q ∈ m, p = (.text q.1, .str q.1, q.2) := by
  unfold mS at h
  obtain ⟨x, hx, rfl⟩ := List.mem_map.mp h
  obtain ⟨q, hq, rfl⟩ := List.mem_map.mp hx
  exact ⟨q, hq, rfl⟩
/-! ### odd things, small; tables of many kinds of keys -/
abbrev vK (m : List (Str × V)) : List (Key × V) := strK (fun v => v) m
theorem fine_same {K : PySem.W.Frag} {H H' : Hp} {v : V} {k : Kn} (s : L2.Same H H') (h : Fine K H v k) : Fine K H' v k := ⟨h.1.same s, h.2⟩
theorem nam_sml {w : World} {H : Hp} {z : Str} (g : NameS z) : Sml w H 0 82 (.str z) := by
  refine ⟨_, .str z, rfl, Nat.le_refl _, ?_⟩
  have hz : ∀ c ∈ z.cps.toList, c < 123 := by
    obtain ⟨d, r, e, h1, _, h3⟩ := g
    rw [e]
    intro c hc
    rcases List.mem_cons.mp hc with rfl | hc
    · obtain ⟨_, h⟩ := h1
      omega
    · rcases h3 c hc with ⟨_, h⟩ | ⟨_, h⟩ <;> omega
  have := PySem.StrLaws.reprText_len z fun c hc => Nat.lt_of_lt_of_le (hz c hc) (by decide)
  have h8 := g.len
  exact Nat.le_trans this (by omega)
theorem nam_fine {K : PySem.W.Frag} {H : Hp} {z : Str} (g : NameS z) : Fine K H (.str z) .str := ⟨.str z, fun y e => by cases e; have := g.len; omega⟩
theorem pick1 (L : List V) {j : Int} (h0 : 0 ≤ j) (h1 : j < L.length) : ∃ g, L[j.toNat]? = some g ∧ g ∈ L := by
  have h : j.toNat < L.length := by omega
  exact ⟨L[j.toNat], List.getElem?_eq_getElem h, List.getElem_mem h⟩
/-- an odd thing, small -/
structure OdX (K : PySem.W.Frag) (w : World) (H : Hp) (v : V) : Prop where
  fi : ∃ k, Fine K H v k
  sm : Sml w H 2 100 v
theorem OdX.same {K : PySem.W.Frag} {w : World} {H H' : Hp} {v : V} (s : L2.Same H H') (h : OdX K w H v) : OdX K w H' v := ⟨h.fi.elim fun k f => ⟨k, fine_same s f⟩, h.sm.same s⟩
theorem put_mem2 {β : Type} : ∀ {xs : List (NestedKey × β × β)} {k : NestedKey} {y v : β} {x : NestedKey × β × β}, x ∈ putM xs k y v → (∃ z ∈ xs, z.1 = x.1 ∧ z.2.1 = x.2.1 ∧ (x.2.2 = z.2.2 ∨ x.2.2 = v)) ∨ x = (k, y, v)
  | [], _, _, _, x, h => .inr (by simpa [putM] using h)
  | p :: r, k, y, v, x, h => by
    rw [putM] at h
    by_cases e : p.1 = k
    · rw [if_pos e] at h
      rcases List.mem_cons.mp h with rfl | h
      · exact .inl ⟨p, List.mem_cons_self, rfl, rfl, .inr rfl⟩
      · exact .inl ⟨x, List.mem_cons_of_mem _ h, rfl, rfl, .inl rfl⟩
    · rw [if_neg e] at h
      rcases List.mem_cons.mp h with rfl | h
      · exact .inl ⟨x, List.mem_cons_self, rfl, rfl, .inl rfl⟩
      · rcases put_mem2 h with ⟨z, hz, q⟩ | q
        · exact .inl ⟨z, List.mem_cons_of_mem _ hz, q⟩
        · exact .inr q
/-- small keys and values -/
structure Mx (K : PySem.W.Frag) (w : World) (H : Hp) (kvs : MV) : Prop where
  ks : KeysOk K H kvs
  ks_ : ∀ p ∈ kvs, Sml w H 2 100 p.2.1
  vs : ∀ p ∈ kvs, OdX K w H p.2.2
theorem Mx.same {K : PySem.W.Frag} {w : World} {H H' : Hp} {kvs : MV} (s : L2.Same H H') (h : Mx K w H kvs) : Mx K w H' kvs := ⟨KeysOk.same s h.ks, fun p m => (h.ks_ p m).same s, fun p m => (h.vs p m).same s⟩
theorem Mx.put {K : PySem.W.Frag} {w : World} {H : Hp} {kvs : MV} {k : NestedKey} {y v : V} (h : Mx K w H kvs) (hk : KeyV K H k y) (hd : k.depth ≤ 8) (sy : Sml w H 2 100 y) (hv : OdX K w H v) : Mx K w H (putM kvs k y v) := by
  refine ⟨fun p m => ?_, fun p m => ?_, fun p m => ?_⟩
  · rcases put_mem2 m with ⟨z, hz, e1, e2, _⟩ | rfl
    · rw [← e1, ← e2]; exact h.ks z hz
    · exact ⟨hk, hd⟩
  · rcases put_mem2 m with ⟨z, hz, e1, e2, _⟩ | rfl
    · rw [← e2]; exact h.ks_ z hz
    · exact sy
  · rcases put_mem2 m with ⟨z, hz, _, _, e | e⟩ | rfl
    · rw [e]; exact h.vs z hz
    · rw [e]; exact hv
    · exact hv
theorem Mx.dK {K : PySem.W.Frag} {w : World} {H : Hp} {m : List (Str × V)} (h1 : ∀ q ∈ m, NameS q.1) (h2 : ∀ q ∈ m, OdX K w H q.2) : Mx K w H (mS m) := by
  refine ⟨keysOk_dK _ _ _, fun p hp => ?_, fun p hp => ?_⟩
  · obtain ⟨q, hq, rfl⟩ := mS_mem hp
    exact (nam_sml (h1 q hq)).mono (by decide) (by decide)
  · obtain ⟨q, hq, rfl⟩ := mS_mem hp
    exact h2 q hq
theorem nam_od {K : PySem.W.Frag} {w : World} {H : Hp} {z : Str} (g : NameS z) : OdX K w H (.str z) := ⟨⟨_, nam_fine g⟩, (nam_sml g).mono (by decide) (by decide)⟩
theorem sgn_lt {z : Str} (g : NameS z) : ∀ c ∈ z.cps.toList, c < 123 := by
  obtain ⟨d, r, e, h1, _, h3⟩ := g
  rw [e]
  intro c hc
  rcases List.mem_cons.mp hc with rfl | hc
  · obtain ⟨_, h⟩ := h1
    omega
  · rcases h3 c hc with ⟨_, h⟩ | ⟨_, h⟩ <;> omega
theorem paired_all {α β : Type} {F : α → β → Prop} {xs : List α} {ys : List β} (r : Paired F xs ys) : ∀ x ∈ xs, ∃ y ∈ ys, F x y := by
  induction r with
  | nil => intro x m; cases m
  | cons h t ih =>
    intro x m
    rcases List.mem_cons.mp m with rfl | m
    · exact ⟨_, List.mem_cons_self, h⟩
    · obtain ⟨y, hy, q⟩ := ih x m
      exact ⟨y, List.mem_cons_of_mem _ hy, q⟩
theorem sml_c {w : World} {H : Hp} {v : V} {d : PyData} (h : ShU w H v d) (h1 : d.showable = true) (h2 : d.depth ≤ 2) (h3 : d.shown.length ≤ 100) : Sml w H 2 100 v := ⟨d, h, h1, h2, h3⟩
theorem same_unlockF {H H' : Hp} {D : Addr} {o : Obj} {u : HO} (h : H D = some u) (s : L2.Same (upd H D (.frz o u)) H') : L2.Same H (upd H' D u) := fun b x e => by
  by_cases hb : b = D
  · subst hb
    rw [h] at e
    rw [upd_same]
    exact e
  · rw [upd_ne hb]
    exact s _ _ (by rw [upd_ne hb]; exact e)
theorem rd_held {H : Hp} {D b : Addr} {o : Obj} {ks : List (Key × V)} {u : HO} (h : H D = some (.dK ks)) (r : Rd H b u) : Rd (upd H D (.frz o (.dK ks))) b u := by
  by_cases hb : b = D
  · subst hb
    rcases r with r | ⟨o', r⟩
    · rw [h] at r
      cases r
      exact .inr ⟨o, upd_same⟩
    · rw [h] at r
      cases r
  · rcases r with r | ⟨o', r⟩
    · exact .inl (by rw [upd_ne hb]; exact r)
    · exact .inr ⟨o', by rw [upd_ne hb]; exact r⟩
theorem sqT_held {K : PySem.W.Frag} {H : Hp} {D b : Addr} {o : Obj} {ks : List (Key × V)} {xs : List V} (h : H D = some (.dK ks)) (r : SqT K H b xs) : SqT K (upd H D (.frz o (.dK ks))) b xs := r.imp (rd_held h) fun z => z
/-- H without some places -/
def woL (H : Hp) (hs : List Addr) : Hp := fun b => if b ∈ hs then none else H b
theorem woL_at {H : Hp} {hs : List Addr} {b : Addr} (n : b ∉ hs) : woL H hs b = H b := by unfold woL; rw [if_neg n]
theorem woL_some {H : Hp} {hs : List Addr} {b : Addr} {o : HO} (e : woL H hs b = some o) : b ∉ hs ∧ H b = some o := by
  unfold woL at e
  by_cases n : b ∈ hs
  · rw [if_pos n] at e; cases e
  · rw [if_neg n] at e; exact ⟨n, e⟩
theorem woL_same {H : Hp} {hs : List Addr} : L2.Same (woL H hs) H := fun b o e => (woL_some e).2
theorem woL_to {H H' : Hp} {hs hs' : List Addr} (h : ∀ b o, b ∉ hs → H b = some o → b ∉ hs' ∧ H' b = some o) : L2.Same (woL H hs) (woL H' hs') := fun b o e => by
  obtain ⟨n, e1⟩ := woL_some e
  obtain ⟨n2, e2⟩ := h b o n e1
  rw [woL_at n2]
  exact e2
theorem woL_in {H H' : Hp} {hs : List Addr} (h : ∀ b o, b ∉ hs → H b = some o → H' b = some o) : L2.Same (woL H hs) H' := fun b o e => by
  obtain ⟨n, e1⟩ := woL_some e
  exact h b o n e1
/-! ### things, right or odd: drawn, with what they are as keys -/
/-- a thing: small; as a key; no name -/
structure ThY (K : PySem.W.Frag) (w : World) (H : Hp) (x : V) : Prop where
  od : OdX K w H x
  ky : (∃ k, Kd K H x k ∧ (isB k .lst || isB k .dict) = true) ∨ ∃ nk, KeyV K H nk x ∧ nk.depth ≤ 8 ∧ ∃ k, Kd K H x k ∧ (isB k .lst || isB k .dict) = false
  nn : nameV x = false
  dc : (∃ k, Kd K H x k ∧ k ≠ .dict) ∨ ∃ a m, x = .ref a ∧ H a = some (.dK (vK m)) ∧ (m = [] ∨ m = [(("a" : Str), V.int 1)])
theorem ThY.same {K : PySem.W.Frag} {w : World} {H H' : Hp} {x : V} (s : L2.Same H H') (h : ThY K w H x) : ThY K w H' x :=
  ⟨h.od.same s, h.ky.imp (fun ⟨k, a, b⟩ => ⟨k, a.same s, b⟩) fun ⟨nk, a, b, k, c, e⟩ => ⟨nk, KeyV.same s a, b, k, c.same s, e⟩, h.nn, h.dc.imp (fun ⟨k, a, b⟩ => ⟨k, a.same s, b⟩) fun ⟨a, m, e1, e2, e3⟩ => ⟨a, m, e1, s _ _ e2, e3⟩⟩
def spThingY (K : PySem.W.Frag) (w : World) : Sp := fun vs H Q _ => ∃ (p : Addr), vs = [.ref p] ∧ PoolAt H p ∧ ∀ H' x, But p H H' → PoolAt H' p → ThY K w (nw H H') x → Q x H'
section
variable {P : Program} {w : World} {K : PySem.W.Frag} {mg : Str → Option Value} {base : Heap}
theorem ok_l_thing {f : Addr} {fd : FuncData} (F : Fun K "_law_thing" "_law_thing" s_l_thing f fd) (C_draw : Cal P w K mg base 1 "_law_draw" ["_law_pool_here", "_law_many"] spDraw) : FnOk P w K mg base CX0 2 f fd ["_law_pool_here"] (spThingY K w) := by
  refine F.ok sc_l_thing (fun vs H Q E h => ?_) (fun cdv A outer s H vs Q E hr h => ?_)
  · obtain ⟨_, rfl, _⟩ := h
    rfl
  · obtain ⟨p, rfl, hp, q⟩ := h
    refine ⟨_, (pss_cons (ps_set (i := 1) sc_l_thing.nd rfl (Or.inl rfl) (pe_lst (pa_cons pe_non (pa_cons pe_bl (pa_cons pe_bl (pa_cons pe_int (pa_cons (pe_un un_neg pe_int) (pa_cons pe_int (pa_cons pe_int (pa_cons pe_int (pa_cons (pe_op op_powW pe_int pe_int) (pa_cons pe_str (pa_cons pe_str (pa_cons pe_str (pa_cons pe_str (pa_cons pe_str (pa_cons pe_str (pa_cons pe_str (pa_cons pe_str (pa_cons (pe_tup pa_nil) (pa_cons (pe_lst pa_nil) (pa_cons pe_dnewK pa_nil))))))))))))))))))))))
      (pss_cons (ps_set (i := 1) sc_l_thing.nd rfl (Or.inl rfl) (pe_op op_cat (pv 1) (pe_lst (pa_cons (pe_tup (pa_cons pe_str pa_nil)) (pa_cons (pe_lst (pa_cons pe_str pa_nil)) (pa_cons (pe_tup (pa_cons pe_str (pa_cons pe_int pa_nil))) (pa_cons (pe_disp (pps_cons pe_str pe_int pps_nil) (by rfl) (by rfl) (fun z => by cases z) (by decide)) (pa_cons pe_str pa_nil))))))))
      (pss_one (ps_ret (pe_ix ix_list (pv 1) (pe_cal C_draw (hr.mono (by decide)) (by rfl) (pa_cons (pv 0) (pa_cons pe_int pa_nil))) (fun _ _ => rfl)))))), ?_⟩
    walk_at "go"
    refine ⟨sz_le (by simp), fun T1 n1 => ?_⟩
    have s1 : L2.Same H (upd H T1 (.tup [])) := same_new n1
    have t1 : (upd H T1 (.tup [])) T1 = some (.tup []) := upd_same
    generalize upd H T1 (.tup []) = H1 at s1 t1
    walk_at "go"
    refine ⟨sz_le (by simp), fun L1 n2 => ?_⟩
    have s2 : L2.Same H1 (upd H1 L1 (.lst [])) := same_new n2
    have t2 : (upd H1 L1 (.lst [])) L1 = some (.lst []) := upd_same
    generalize upd H1 L1 (.lst []) = H2 at s2 t2
    walk_at "go"
    intro D1 n3
    have s3 : L2.Same H2 (upd H2 D1 (.dK [])) := same_new n3
    have t3 : (upd H2 D1 (.dK [])) D1 = some (.dK []) := upd_same
    generalize upd H2 D1 (.dK []) = H3 at s3 t3
    walk_at "go"
    refine ⟨sz_le (by simp), fun A1 n4 => ?_⟩
    have s4 := same_new (o := .lst (V.non :: V.bl true :: V.bl false :: V.int 0 :: V.int (-1) :: V.int 1 :: V.int 5 :: V.int 10 :: V.int (10 ^ Int.toNat 29) :: V.str "" :: V.str "A" :: V.str "a-" :: V.str "1a" :: V.str "abcdefghi" :: V.str "a b" :: V.str "b\n" :: V.str "*" :: [V.ref T1, V.ref L1, V.ref D1])) n4
    have t4 : (upd H3 A1 (.lst (V.non :: V.bl true :: V.bl false :: V.int 0 :: V.int (-1) :: V.int 1 :: V.int 5 :: V.int 10 :: V.int (10 ^ Int.toNat 29) :: V.str "" :: V.str "A" :: V.str "a-" :: V.str "1a" :: V.str "abcdefghi" :: V.str "a b" :: V.str "b\n" :: V.str "*" :: [V.ref T1, V.ref L1, V.ref D1]))) A1 = _ := upd_same
    generalize upd H3 A1 (.lst (V.non :: V.bl true :: V.bl false :: V.int 0 :: V.int (-1) :: V.int 1 :: V.int 5 :: V.int 10 :: V.int (10 ^ Int.toNat 29) :: V.str "" :: V.str "A" :: V.str "a-" :: V.str "1a" :: V.str "abcdefghi" :: V.str "a b" :: V.str "b\n" :: V.str "*" :: [V.ref T1, V.ref L1, V.ref D1])) = H4 at s4 t4
    walk_at "go"
    refine ⟨sz_le (by simp), fun T5 n5 => ?_⟩
    have s5 : L2.Same H4 (upd H4 T5 (.tup [V.str "end"])) := same_new n5
    have t5 : (upd H4 T5 (.tup [V.str "end"])) T5 = some (.tup [V.str "end"]) := upd_same
    generalize upd H4 T5 (.tup [V.str "end"]) = H5 at s5 t5
    walk_at "go"
    refine ⟨sz_le (by simp), fun L6 n6 => ?_⟩
    have s6 : L2.Same H5 (upd H5 L6 (.lst [V.str "a"])) := same_new n6
    have t6 : (upd H5 L6 (.lst [V.str "a"])) L6 = some (.lst [V.str "a"]) := upd_same
    generalize upd H5 L6 (.lst [V.str "a"]) = H6 at s6 t6
    walk_at "go"
    refine ⟨sz_le (by simp), fun T7 n7 => ?_⟩
    have s7 : L2.Same H6 (upd H6 T7 (.tup [V.str "a", V.int 1])) := same_new n7
    have t7 : (upd H6 T7 (.tup [V.str "a", V.int 1])) T7 = some (.tup [V.str "a", V.int 1]) := upd_same
    generalize upd H6 T7 (.tup [V.str "a", V.int 1]) = H7 at s7 t7
    walk_at "go"
    refine x_disp fun D8 n8 => x_prs ?_
    walk_at "go"
    refine x_prs0 ⟨upd_same, [(Sum.inr "a", .int 1)], rfl, by simp, ?_⟩
    rw [merge1, upd_upd]
    have s8 : L2.Same H7 (upd H7 D8 (.dK [(Sum.inr "a", .int 1)])) := same_new n8
    have t8 : (upd H7 D8 (.dK [(Sum.inr "a", .int 1)])) D8 = some (.dK [(Sum.inr "a", .int 1)]) := upd_same
    generalize upd H7 D8 (.dK [(Sum.inr "a", .int 1)]) = H8 at s8 t8
    walk_at "go"
    refine ⟨sz_le (by simp), fun A2 n9 => ?_⟩
    have s9 : L2.Same H8 (upd H8 A2 (.lst [V.ref T5, V.ref L6, V.ref T7, V.ref D8, V.str "aB"])) := same_new n9
    have t9 : (upd H8 A2 (.lst [V.ref T5, V.ref L6, V.ref T7, V.ref D8, V.str "aB"])) A2 = some (.lst [V.ref T5, V.ref L6, V.ref T7, V.ref D8, V.str "aB"]) := upd_same
    generalize upd H8 A2 (.lst [V.ref T5, V.ref L6, V.ref T7, V.ref D8, V.str "aB"]) = H9 at s9 t9
    have s49 : L2.Same H4 H9 := s5.trans (s6.trans (s7.trans (s8.trans s9)))
    refine ⟨A1, A2, _, _, rfl, rfl, s49 _ _ t4, t9, sz_le (by simp), fun R n10 => ?_⟩
    have s10 : L2.Same H9 (upd H9 R (.lst ([V.non, V.bl true, V.bl false, V.int 0, V.int (-1), V.int 1, V.int 5, V.int 10, V.int (10 ^ Int.toNat 29), V.str "", V.str "A", V.str "a-", V.str "1a", V.str "abcdefghi", V.str "a b", V.str "b\n", V.str "*", V.ref T1, V.ref L1, V.ref D1] ++ [V.ref T5, V.ref L6, V.ref T7, V.ref D8, V.str "aB"]))) := same_new n10
    have t10 : (upd H9 R (.lst ([V.non, V.bl true, V.bl false, V.int 0, V.int (-1), V.int 1, V.int 5, V.int 10, V.int (10 ^ Int.toNat 29), V.str "", V.str "A", V.str "a-", V.str "1a", V.str "abcdefghi", V.str "a b", V.str "b\n", V.str "*", V.ref T1, V.ref L1, V.ref D1] ++ [V.ref T5, V.ref L6, V.ref T7, V.ref D8, V.str "aB"]))) R = some (.lst ([V.non, V.bl true, V.bl false, V.int 0, V.int (-1), V.int 1, V.int 5, V.int 10, V.int (10 ^ Int.toNat 29), V.str "", V.str "A", V.str "a-", V.str "1a", V.str "abcdefghi", V.str "a b", V.str "b\n", V.str "*", V.ref T1, V.ref L1, V.ref D1] ++ [V.ref T5, V.ref L6, V.ref T7, V.ref D8, V.str "aB"])) := upd_same
    generalize upd H9 R (.lst ([V.non, V.bl true, V.bl false, V.int 0, V.int (-1), V.int 1, V.int 5, V.int 10, V.int (10 ^ Int.toNat 29), V.str "", V.str "A", V.str "a-", V.str "1a", V.str "abcdefghi", V.str "a b", V.str "b\n", V.str "*", V.ref T1, V.ref L1, V.ref D1] ++ [V.ref T5, V.ref L6, V.ref T7, V.ref D8, V.str "aB"])) = Hq at s10 t10
    have sA : L2.Same H4 Hq := s49.trans s10
    have sB : L2.Same H Hq := s1.trans (s2.trans (s3.trans (s4.trans sA)))
    have npR : R ≠ p := fun e => by
      obtain ⟨ns, e2, _⟩ := hp
      have := (s1.trans (s2.trans (s3.trans (s4.trans s49)))).free n10
      rw [e, e2] at this
      cases this
    have hpq : PoolAt Hq p := by
      obtain ⟨ns, e, ok⟩ := hp
      exact ⟨ns, sB _ _ e, ok⟩
    have f1 : nw H Hq T1 = some (.tup []) := (nw_at n1).trans ((s2.trans (s3.trans (s4.trans sA))) _ _ t1)
    have f2 : nw H Hq L1 = some (.lst []) := (nw_at (s1.free n2)).trans ((s3.trans (s4.trans sA)) _ _ t2)
    have f3 : nw H Hq D1 = some (.dK []) := (nw_at ((s1.trans s2).free n3)).trans ((s4.trans sA) _ _ t3)
    have s14 := s1.trans (s2.trans (s3.trans s4))
    have f5 : nw H Hq T5 = some (.tup [V.str "end"]) := (nw_at (s14.free n5)).trans ((s6.trans (s7.trans (s8.trans (s9.trans s10)))) _ _ t5)
    have f6 : nw H Hq L6 = some (.lst [V.str "a"]) := (nw_at ((s14.trans s5).free n6)).trans ((s7.trans (s8.trans (s9.trans s10))) _ _ t6)
    have f7 : nw H Hq T7 = some (.tup [V.str "a", V.int 1]) := (nw_at ((s14.trans (s5.trans s6)).free n7)).trans ((s8.trans (s9.trans s10)) _ _ t7)
    have f8 : nw H Hq D8 = some (.dK [(Sum.inr "a", .int 1)]) := (nw_at ((s14.trans (s5.trans (s6.trans s7))).free n8)).trans ((s9.trans s10) _ _ t8)
    have sm_ : ∀ {y : V} {d : PyData}, ShU w (nw H Hq) y d → d.showable = true → d.depth ≤ 2 → d.shown.length ≤ 100 → Sml w (nw H Hq) 2 100 y := fun a b c e => ⟨_, a, b, c, e⟩
    have all_ : ∀ y ∈ ([V.non, V.bl true, V.bl false, V.int 0, V.int (-1), V.int 1, V.int 5, V.int 10, V.int (10 ^ Int.toNat 29), V.str "", V.str "A", V.str "a-", V.str "1a", V.str "abcdefghi", V.str "a b", V.str "b\n", V.str "*", V.ref T1, V.ref L1, V.ref D1] ++ [V.ref T5, V.ref L6, V.ref T7, V.ref D8, V.str "aB"] : List V), ThY K w (nw H Hq) y := by
      intro y hy
      simp only [List.cons_append, List.nil_append, List.mem_cons, List.not_mem_nil, or_false] at hy
      rcases hy with rfl | rfl | rfl | rfl | rfl | rfl | rfl | rfl | rfl | rfl | rfl | rfl | rfl | rfl | rfl | rfl | rfl | rfl | rfl | rfl | rfl | rfl | rfl | rfl | rfl
      all_goals first
        | exact ⟨⟨⟨_, .non, fun z e => by cases e⟩, sm_ .non (by decide +kernel) (by decide +kernel) (by decide +kernel)⟩, .inr ⟨_, .non, Nat.zero_le _, _, .non, rfl⟩, rfl, .inl ⟨_, .non, by decide⟩⟩
        | exact ⟨⟨⟨_, .bl _, fun z e => by cases e⟩, sm_ (.bl _) (by decide +kernel) (by decide +kernel) (by decide +kernel)⟩, .inr ⟨_, .bl _, Nat.zero_le _, _, .bl _, rfl⟩, rfl, .inl ⟨_, .bl _, by decide⟩⟩
        | exact ⟨⟨⟨_, .int _, fun z e => by cases e⟩, sm_ (.int _) (by decide +kernel) (by decide +kernel) (by decide +kernel)⟩, .inr ⟨_, .int _, Nat.zero_le _, _, .int _, rfl⟩, rfl, .inl ⟨_, .int _, by decide⟩⟩
        | exact ⟨⟨⟨_, .str _, fun z e => by cases e; decide +kernel⟩, sm_ (.str _) (by decide +kernel) (by decide +kernel) (by decide +kernel)⟩, .inr ⟨_, .text _, Nat.zero_le _, _, .str _, rfl⟩, by decide +kernel, .inl ⟨_, .str _, by decide⟩⟩
        | exact ⟨⟨⟨_, .tup (SqT.of f1), fun z e => by cases e⟩, sm_ (.tup f1 .nil) (by decide +kernel) (by decide +kernel) (by decide +kernel)⟩, .inr ⟨.tup [], .tup (SqT.of f1) .nil, by decide +kernel, _, .tup (SqT.of f1), rfl⟩, rfl, .inl ⟨_, .tup (SqT.of f1), by decide⟩⟩
        | exact ⟨⟨⟨_, .lst (SqL.of f2), fun z e => by cases e⟩, sm_ (.lst (.inl f2) .nil) (by decide +kernel) (by decide +kernel) (by decide +kernel)⟩, .inl ⟨_, .lst (SqL.of f2), rfl⟩, rfl, .inl ⟨_, .lst (SqL.of f2), by decide⟩⟩
        | exact ⟨⟨⟨_, .dict (.inl f3), fun z e => by cases e⟩, sm_ (.dM (.inr ⟨[], .inl f3, rfl⟩) .nil .nil) (by decide +kernel) (by decide +kernel) (by decide +kernel)⟩, .inl ⟨_, .dict (.inl f3), rfl⟩, rfl, .inr ⟨_, [], rfl, f3, .inl rfl⟩⟩
        | exact ⟨⟨⟨_, .tup (SqT.of f5), fun z e => by cases e⟩, sm_ (.tup f5 (.cons (.str _) .nil)) (by decide +kernel) (by decide +kernel) (by decide +kernel)⟩, .inr ⟨.tup [.text "end"], .tup (SqT.of f5) (.cons (.text _) .nil), by simp [NestedKey.depth, NestedKey.depthAll], _, .tup (SqT.of f5), rfl⟩, rfl, .inl ⟨_, .tup (SqT.of f5), by decide⟩⟩
        | exact ⟨⟨⟨_, .lst (SqL.of f6), fun z e => by cases e⟩, sm_ (.lst (.inl f6) (.cons (.str _) .nil)) (by decide +kernel) (by decide +kernel) (by decide +kernel)⟩, .inl ⟨_, .lst (SqL.of f6), rfl⟩, rfl, .inl ⟨_, .lst (SqL.of f6), by decide⟩⟩
        | exact ⟨⟨⟨_, .tup (SqT.of f7), fun z e => by cases e⟩, sm_ (.tup f7 (.cons (.str _) (.cons (.int _) .nil))) (by decide +kernel) (by decide +kernel) (by decide +kernel)⟩, .inr ⟨.tup [.text "a", .num 1], .tup (SqT.of f7) (.cons (.text _) (.cons (.int _) .nil)), by simp [NestedKey.depth, NestedKey.depthAll], _, .tup (SqT.of f7), rfl⟩, rfl, .inl ⟨_, .tup (SqT.of f7), by decide⟩⟩
        | exact ⟨⟨⟨_, .dict (.inl f8), fun z e => by cases e⟩, sm_ (.dM (.inr ⟨_, .inl f8, rfl⟩) (.cons (.str _) .nil) (.cons (.int _) .nil)) (by decide +kernel) (by decide +kernel) (by decide +kernel)⟩, .inl ⟨_, .dict (.inl f8), rfl⟩, rfl, .inr ⟨_, [(("a" : Str), V.int 1)], rfl, f8, .inr rfl⟩⟩
    walk_at "go"
    refine ⟨p, 25, rfl, hpq, by decide, by decide, fun Hz r bz pz r0 r1 => ?_⟩
    obtain ⟨n, rfl⟩ : ∃ n : Nat, r = n := ⟨r.toNat, by omega⟩
    have hn : n < 25 := by omega
    have hR := bz _ _ t10 npR
    obtain ⟨y, hy⟩ : ∃ y, ([V.non, V.bl true, V.bl false, V.int 0, V.int (-1), V.int 1, V.int 5, V.int 10, V.int (10 ^ Int.toNat 29), V.str "", V.str "A", V.str "a-", V.str "1a", V.str "abcdefghi", V.str "a b", V.str "b\n", V.str "*", V.ref T1, V.ref L1, V.ref D1] ++ [V.ref T5, V.ref L6, V.ref T7, V.ref D8, V.str "aB"] : List V)[n]? = some y := ⟨_, List.getElem?_eq_getElem (by simpa using hn)⟩
    refine x_ixl n (SqL.of hR) rfl hy ?_
    refine q Hz y (fun b o e n => bz b o (sB b o e) n) pz ((all_ y (List.mem_of_getElem? hy)).same (nw_same (fun _ h => h) fun a o e1 e2 => bz a o e2 fun e => ?_))
    rw [e] at e1
    exact pool_some hp e1
theorem ok_l_is_int {f : Addr} {fd : FuncData} (F : Fun K "_law_is_int" "_law_is_int" s_l_is_int f fd) (Z_int : mg "int" = none) (Z_bool : mg "bool" = none) (Z_isinstance : mg "isinstance" = none) : FnOk P w K mg base CX0 1 f fd ["_law_thing_here"] (spIsInt K) := by
  refine F.ok sc_l_is_int (fun vs H Q E h => ?_) (fun cdv A outer s H vs Q E hr h => ?_)
  · obtain ⟨_, _, rfl, _⟩ := h
    rfl
  · obtain ⟨x, k, rfl, hk, q⟩ := h
    refine ⟨_, (pss_one (ps_ret (pe_and (pe_callB call_isi (by rfl) Z_isinstance (by decide +kernel) (pa_cons (pv 0) (pa_cons (pe_bltn (v := .ty "int") (by rfl) Z_int (by decide +kernel) rfl) pa_nil))) (pe_one (pe_not (pe_callB call_isi (by rfl) Z_isinstance (by decide +kernel) (pa_cons (pv 0) (pa_cons (pe_bltn (v := .ty "bool") (by rfl) Z_bool (by decide +kernel) rfl) pa_nil)))))))), ?_⟩
    walk_at "go"
    refine x_isiInt hk ?_
    walk_at "go"
    cases k
    case int =>
      refine x_T ?_
      walk_at "go"
      refine x_isiBool hk ?_
      walk_at "go"
      exact q
    case bl =>
      refine x_T ?_
      walk_at "go"
      refine x_isiBool hk ?_
      walk_at "go"
      exact q
    all_goals
      refine x_F ?_
      exact q
end
/-! ### wishes -/
def valueV : V → Bool
  | .int i => decide (-99 ≤ i) && decide (i ≤ 99)
  | _ => false
def spIsValue (K : PySem.W.Frag) : Sp := fun vs H Q _ => ∃ x k, vs = [x] ∧ Kd K H x k ∧ Q (.bl (valueV x)) H
def worthsB (kvs : List (Key × V)) : Bool := decide (kvs.length ≤ 100) && kvs.all fun p => nameV (kV p.1) && valueV p.2
def kvFine (K : PySem.W.Frag) (H : Hp) (kvs : List (Key × V)) : Prop := ∀ p ∈ kvs, (∀ z, p.1 = Sum.inr z → z.length ≤ 10000) ∧ ∃ k, Kd K H p.2 k
/-- of a dict; of anything else it is False -/
def spAreWorths (K : PySem.W.Frag) : Sp := fun vs H Q _ => (∃ d kvs, vs = [.ref d] ∧ H d = some (.dK kvs) ∧ kvFine K H kvs ∧ ∀ H', L2.Same H H' → Q (.bl (worthsB kvs)) H') ∨
  ∃ x k, vs = [x] ∧ Kd K H x k ∧ k ≠ .dict ∧ Q (.bl false) H
theorem kV_kd {K : PySem.W.Frag} {H : Hp} (k : Key) : ∃ n, Kd K H (kV k) n := by
  cases k with
  | inl i => exact ⟨_, .int i⟩
  | inr z => exact ⟨_, .str z⟩
section
variable {P : Program} {w : World} {K : PySem.W.Frag} {mg : Str → Option Value} {base : Heap}
theorem ok_is_value {f : Addr} {fd : FuncData} (F : Fun K "is_value" "is_value" s_is_value f fd) (C_is_integer : Cal P w K mg base 1 "is_integer" ["thing"] (spIsInt K)) : FnOk P w K mg base CX0 2 f fd ["thing"] (spIsValue K) := by
  refine F.ok sc_is_value (fun vs H Q E h => ?_) (fun cdv A outer s H vs Q E hr h => ?_)
  · obtain ⟨_, _, rfl, _⟩ := h
    rfl
  · obtain ⟨x, k, rfl, hk, q⟩ := h
    refine ⟨_, (pss_one (ps_ret (pe_and (pe_cal C_is_integer (hr.mono (by decide)) (by rfl) (pa_cons (pv 0) pa_nil)) (pe_one (pe_chain op_le op_le (pe_un un_neg pe_int) (pv 0) pe_int))))), ?_⟩
    walk_at "go"
    refine ⟨x, k, rfl, hk, ?_⟩
    walk_at "go"
    cases hk with
    | int i =>
      refine x_T ?_
      walk_at "go"
      have e : valueV (.int i) = (decide (-99 ≤ i) && decide (i ≤ 99)) := rfl
      rw [e] at q
      refine x_dec (fun h1 => ?_) (fun h1 => ?_)
      · rw [decide_eq_true h1, Bool.true_and] at q
        walk_at "go"
        exact q
      · rw [decide_eq_false h1, Bool.false_and] at q
        exact q
    | non => exact x_F q
    | bl b => exact x_F q
    | str z => exact x_F q
    | lst h => exact x_F q
    | tup h => exact x_F q
    | dict h => exact x_F q
end
/-! ### a wish as an object -/
def wF (t : Addr) (e : Int) (b : Bool) : List (Str × V) := putF "coming" (.bl b) (putF "endless" (.int e) (putF "table" (.ref t) []))
theorem wF_table (t : Addr) (e : Int) (b : Bool) : (wF t e b).lookup ("table" : Str) = some (.ref t) := by
  unfold wF
  rw [lookup_putF, if_neg (by decide +kernel), lookup_putF, if_neg (by decide +kernel), lookup_putF, if_pos rfl]
theorem wF_endless (t : Addr) (e : Int) (b : Bool) : (wF t e b).lookup ("endless" : Str) = some (.int e) := by
  unfold wF
  rw [lookup_putF, if_neg (by decide +kernel), lookup_putF, if_pos rfl]
theorem wF_coming (t : Addr) (e : Int) (b : Bool) : (wF t e b).lookup ("coming" : Str) = some (.bl b) := by
  unfold wF
  rw [lookup_putF, if_pos rfl]
def comingB (l : List (Str × Int)) (e : Int) : Bool := l.all fun q => decide (e ≤ q.2)
/-- what may become a wish -/
structure GoodW (l : List (Str × Int)) (e : Int) : Prop where
  nd : (l.map (·.1)).Nodup
  len : l.length ≤ 100
  nm : ∀ q ∈ l, NameS q.1
  lo : ∀ q ∈ l, -99 ≤ q.2 ∧ q.2 ≤ 99
  elo : -99 ≤ e ∧ e ≤ 99
  side : Side e l
/-- a wish with the worths l (in any order) stands at p -/
structure WishAt (C : Addr) (H : Hp) (p : Addr) (l : List (Str × Int)) (e : Int) : Prop where
  ex : ∃ dx t l', H p = some (.ins C dx (wF t e (comingB l e))) ∧ H t = some (.dK (strK V.int l')) ∧ l'.Perm l ∧ sortedS (l'.map (·.1)) = true
theorem WishAt.same {C : Addr} {H H' : Hp} {p : Addr} {l : List (Str × Int)} {e : Int} (h : WishAt C H p l e) (s : L2.Same H H') : WishAt C H' p l e := by
  obtain ⟨dx, t, l', h1, h2, h3⟩ := h.ex
  exact ⟨dx, t, l', s _ _ h1, s _ _ h2, h3⟩
def spWishInit (C : Addr) : Sp := fun vs H Q _ => ∃ (s d dx : Addr) (e : Int) (l : List (Str × Int)), vs = [.ref s, .ref d, .int e] ∧ H s = some (.ins C dx []) ∧ H d = some (.dK (strK V.int l)) ∧ GoodW l e ∧
  ∀ H', (∀ b o, H b = some o → b ≠ s → H' b = some o) → WishAt C H' s l e → Q .non H'
def spWorths (C : Addr) : Sp := fun vs H Q _ => ∃ (s : Addr) (e : Int) (l : List (Str × Int)), vs = [.ref s] ∧ WishAt C H s l e ∧ (l.map (·.1)).Nodup ∧ l.length ≤ 1000 ∧
  ∀ H' D l', L2.Same H H' → H D = none → H' D = some (.dK (strK V.int l')) → l'.Perm l → Q (.ref D) H'
def negL (l : List (Str × Int)) : List (Str × Int) := l.map fun q => (q.1, -q.2)
def spMirrored (C : Addr) : Sp := fun vs H Q _ => ∃ (s : Addr) (e : Int) (l : List (Str × Int)), vs = [.ref s] ∧ WishAt C H s l e ∧ GoodW l e ∧
  ∀ H' p, L2.Same H H' → H p = none → WishAt C H' p (negL l) (-e) → Q (.ref p) H'
def eqWB (l1 l2 : List (Str × Int)) (e1 e2 : Int) : Bool := decide (e1 = e2)
/-- == where the worths are the same ones -/
def spWishEq (C : Addr) : Sp := fun vs H Q _ => ∃ (a b : Addr) (e1 e2 : Int) (l1 l2 : List (Str × Int)), vs = [.ref a, .ref b] ∧ WishAt C H a l1 e1 ∧ WishAt C H b l2 e2 ∧ l1.Perm l2 ∧ (l1.map (·.1)).Nodup ∧ e1 = e2 ∧ Q (.bl true) H
theorem worthsB_good {l : List (Str × Int)} {e : Int} (g : GoodW l e) : worthsB (strK V.int l) = true := by
  show (decide ((strK V.int l).length ≤ 100) && _) = true
  rw [decide_eq_true (by rw [List.length_map]; have := g.len; omega), Bool.true_and, List.all_map]
  refine List.all_eq_true.mpr fun q hq => ?_
  show (nameV (.str q.1) && valueV (.int q.2)) = true
  have h := g.lo q hq
  have h2 : valueV (.int q.2) = true := by
    show (decide _ && decide _) = true
    rw [decide_eq_true h.1, decide_eq_true h.2]
    rfl
  rw [(g.nm q hq).v, h2]
  rfl
theorem kvFine_int {K : PySem.W.Frag} {H : Hp} {l : List (Str × Int)} (h : ∀ q ∈ l, NameS q.1) : kvFine K H (strK V.int l) := fun p hp => by
  obtain ⟨q, hq, rfl⟩ := List.mem_map.mp hp
  refine ⟨fun z hz => ?_, _, .int _⟩
  cases hz
  have := (h q hq).len
  omega
/-- [e op v for v in list(d.values())] -/
theorem lc_vals {K : PySem.W.Frag} {σ : L2.St} {H : Hp} {Qd : Addr → Hp → Prop} {d : Addr} {l : List (Str × Int)} {e : Int} {g : Int → Int → Bool} {j n : Nat} (hd : Rd H d (.dK (strK V.int l))) (hl : l.length ≤ 1000) (hj : j ≠ n) (hn : n < σ.length)
    (h2 : σ[j]? = some (some (.int e))) (k : ∀ H' D, L2.Same H H' → H D = none → H' D = some (.lst ((l.map fun q => g e q.2).map V.bl)) → Qd D H') :
    rListVA (.ref d) H fun x H1 => RunL K (fun J H1 => ∀ D, H1 D = none → LcP J (gName n) tYes (tOp (rI0 fun i j => V.bl (g i j)) (tVar j) (tVar n)) [n] σ D (Qd D) H1) x H1 := by
  refine x_listv hd fun p1 hp1 => runL (SqL.of upd_same) fun D hD => ?_
  have hp1D : p1 ≠ D := ne_of_none upd_same hD
  have hD0 : H D = none := by rw [upd_ne hp1D.symm] at hD; exact hD
  have eV : (strK V.int l).map Prod.snd = l.map fun q => V.int q.2 := by rw [List.map_map]; rfl
  rw [eV]
  refine lcL (xs := l.map fun q => V.int q.2) (fun t H' => L2.Same H H' ∧ H' p1 = some (.lst (l.map fun q => V.int q.2)) ∧ H' D = some (.lst (((l.take t).map fun q => g e q.2).map V.bl))) ?_ ?_ ?_ ?_
  · exact ⟨same_upd (same_new hp1) hD0, by rw [upd_ne hp1D]; exact upd_same, upd_same⟩
  · exact fun t H' _ h => SqL.of h.2.1
  · rintro t x H' hx ⟨s1, hp, hD1⟩
    rw [List.getElem?_map] at hx
    cases hq : l[t]? with
    | none => rw [hq] at hx; cases hx
    | some q =>
      rw [hq] at hx
      have ex : V.int q.2 = x := Option.some.inj hx
      subst ex
      have hlt : t < l.length := (List.getElem?_eq_some_iff.mp hq).1
      refine x_g1 ⟨?_, x_yes1 (x_T (x_op (x_var (v := .int e) ?_ (x_var (v := .int q.2) ?_ (x_I0 ⟨_, hD1, sz_lt (by simp; omega), same_upd s1 hD0, by rw [upd_ne hp1D]; exact hp, ?_⟩)))))⟩
      · show ((σ.set n none).set n (some (.int q.2))).set n none = σ.set n none
        rw [List.set_set, List.set_set]
      · show ((σ.set n none).set n _)[j]? = _
        rw [List.getElem?_set_ne hj.symm, List.getElem?_set_ne hj.symm]
        exact h2
      · show ((σ.set n none).set n _)[n]? = _
        rw [List.getElem?_set_self (by rw [List.length_set]; exact hn)]
      · rw [upd_same, take_succ_get hq]
        simp
  · rintro H' ⟨s1, hp, hD1⟩
    rw [List.length_map, List.take_length] at hD1
    exact k H' D s1 hD0 hD1
section
variable {P : Program} {w : World} {K : PySem.W.Frag} {mg : Str → Option Value} {base : Heap} {C : Addr}
theorem ok_Wish_worths {f : Addr} {fd : FuncData} (F : Fun K "worths" "Wish.worths" s_Wish_worths f fd) (K_Wish : Cls K C) (N1 : NoAttr K C "table") : FnOk P w K mg base CX0 1 f fd ["self"] (spWorths C) := by
  refine F.ok sc_Wish_worths (fun vs H Q E h => ?_) (fun cdv A outer s H vs Q E hr h => ?_)
  · obtain ⟨_, _, _, rfl, _⟩ := h
    rfl
  · obtain ⟨a, e, l, rfl, hW, hnd, hlen, k⟩ := h
    obtain ⟨dx, t, l', ha, ht, hp, _⟩ := hW.ex
    have hu := hu_of hr
    have hnd' : (l'.map (·.1)).Nodup := (List.Perm.nodup_iff (hp.map _)).mpr hnd
    have hat : a ≠ t := ne_of ha ht (by intro z; cases z)
    refine ⟨_, (pss_one (ps_ret (pe_lock (pe_dc (own := [("name", 1)]) (g := gName 1) (tt := tYes) (by rfl) sc_Wish_worths.nd (pi_keys (pe_fld (pv 0) rfl)) (blkOk_by (own := [("name", 1)]) (N := N_Wish_worths) (sc := defScope s_Wish_worths) (by decide +kernel)) (fun _ _ _ _ _ => (pg_name (i := 1) sc_Wish_worths.nd rfl (Or.inl rfl))) (fun _ _ _ _ _ => pts_nil) (fun _ _ _ _ _ => by exact (pv 1)) (fun _ _ _ _ _ => by exact (pe_dget hu (pe_fldK (K := K) (pv 0) (by rfl)) (pv 1) (fun _ _ => rfl))))))), ?_⟩
    walk_at "go"
    refine x_lockE ht trivial fun od => ?_
    have ha1 : (upd H t (.frz od (.dK (strK V.int l')))) a = some (.ins C dx (wF t e (comingB l e))) := by rw [upd_ne hat]; exact ha
    walk_at "go"
    refine x_fld K_Wish N1 ha1 (wF_table _ _ _) ?_
    refine runK upd_same ?_
    intro D hD
    have hDt : D ≠ t := fun z => by rw [z, upd_same] at hD; cases hD
    have hD0 : H D = none := by rw [upd_ne hDt] at hD; exact hD
    refine dcK (kvs := strK V.int l') (fun i H' => L2.Same (upd H t (.frz od (.dK (strK V.int l')))) H' ∧ H' D = some (.dK (strK V.int (l'.take i)))) ?_ ?_ ?_ ?_
    · exact ⟨same_new hD, upd_same⟩
    · exact fun i H' _ h => h.1 t _ upd_same
    · rintro i k0 v0 H' hi ⟨s1, hD1⟩
      obtain ⟨z, x, rfl, rfl, hlx⟩ := strK_at hi
      have hlt : i < l'.length := (List.getElem?_eq_some_iff.mp hlx).1
      walk_at "go"
      refine ⟨rfl, ?_⟩
      walk_at "go"
      refine x_fld K_Wish N1 (s1 _ _ ha1) (wF_table _ _ _) ?_
      walk_at "go"
      refine x_getS (kvs := strK V.int l') (.inr ⟨od, s1 t _ upd_same⟩) (strK_val hnd' hlx) ?_
      refine ⟨_, Sum.inr z, rfl, hD1, sz_lt (by have := hp.length_eq; simp; omega), same_upd s1 hD, ?_⟩
      rw [upd_same, strK_put, putL_new, take_succ_get hlx]
      intro hm
      obtain ⟨p', hp', e'⟩ := List.mem_map.mp hm
      obtain ⟨j, hj, he⟩ := List.getElem_of_mem hp'
      have hj2 : j < i := by simp at hj; omega
      have h5 : (l'.map (·.1))[j]? = some z := by
        rw [List.getElem_take] at he
        rw [List.getElem?_map, List.getElem?_eq_getElem (by omega), he]
        exact congrArg some e'
      have h6 : (l'.map (·.1))[i]? = some z := by rw [List.getElem?_map, hlx]; rfl
      have := L2.nd_ix hnd' h5 h6
      omega
    · rintro H4 ⟨s1, hD1⟩
      have eL : (strK V.int l').length = l'.length := List.length_map ..
      rw [eL, List.take_length] at hD1
      refine ⟨s1 t _ upd_same, ?_⟩
      refine k _ D l' (fun b o e => ?_) hD0 (by rw [upd_ne hDt]; exact hD1) hp
      by_cases hbt : b = t
      · subst hbt
        rw [ht] at e
        rw [upd_same, e]
      · rw [upd_ne hbt]
        exact s1 b o (by rw [upd_ne hbt]; exact e)
end
/-! ### a name, by the law's own words -/
theorem lowC_at (d : Nat) : d ∈ (Str.ofString "abcdefghijklmnopqrstuvwxyz").cps.toList ↔ lowC d := by
  rw [show (Str.ofString "abcdefghijklmnopqrstuvwxyz").cps.toList = List.range' 97 26 by decide +kernel, List.mem_range'_1]
  unfold lowC
  omega
theorem sgnC_at (d : Nat) : d ∈ (Str.ofString "abcdefghijklmnopqrstuvwxyz0123456789").cps.toList ↔ sgnC d := by
  rw [show (Str.ofString "abcdefghijklmnopqrstuvwxyz0123456789").cps.toList = List.range' 97 26 ++ List.range' 48 10 by decide +kernel, List.mem_append, List.mem_range'_1, List.mem_range'_1]
  unfold sgnC
  omega
theorem nameV_cons {z : Str} {d : Nat} {r : List Nat} (ez : z.cps.toList = d :: r) (hl : r.length ≤ 7) (hd : lowC d) : nameV (.str z) = (z.cps.toList.map fun e => decide (sgnC e)).all (fun b => b) := by
  show nameL z.cps.toList = _
  rw [ez]
  show (decide (r.length ≤ 7) && (decide (lowC d) && r.all fun e => decide (sgnC e))) = (decide (sgnC d) :: r.map fun e => decide (sgnC e)).all (fun b => b)
  rw [decide_eq_true hl, decide_eq_true hd, List.all_cons, decide_eq_true (show sgnC d from .inl hd), List.all_map]
  rfl
theorem nameV_nolow {z : Str} {d : Nat} {r : List Nat} (ez : z.cps.toList = d :: r) (hd : ¬ lowC d) : nameV (.str z) = false := by
  show nameL z.cps.toList = false
  rw [ez]
  show (decide (r.length ≤ 7) && (decide (lowC d) && _)) = false
  rw [decide_eq_false hd]
  simp
theorem nameV_empty {z : Str} (h : z.cps.toList.length < 1) : nameV (.str z) = false := by
  show nameL z.cps.toList = false
  cases ez : z.cps.toList with
  | nil => rfl
  | cons d r => rw [ez] at h; simp at h
theorem nameV_long {z : Str} (h : 8 < z.cps.toList.length) : nameV (.str z) = false := by
  show nameL z.cps.toList = false
  cases ez : z.cps.toList with
  | nil => rfl
  | cons d r =>
    rw [ez] at h
    simp at h
    show (decide (r.length ≤ 7) && _) = false
    rw [decide_eq_false (by omega)]
    rfl
def spIsNameN (K : PySem.W.Frag) : Sp := fun vs H Q _ => ∃ x k, vs = [x] ∧ Fine K H x k ∧ ∀ H', L2.Same H H' → Q (.bl (nameV x)) H'
theorem lcS {σ : L2.St} {H : Hp} {D : Addr} {Qd : Hp → Prop} {g : TG} {tt : TT} {te : TE} {vs : List Nat} {z : Str} (Pv : Nat → Hp → Prop) (h0 : Pv 0 (upd H D (.lst [])))
    (hs : ∀ i d H, z.cps[i]? = some d → Pv i H → g (.str ⟨#[d]⟩) (wipe σ vs) H fun σ2 H2 => wipe σ2 vs = wipe σ vs ∧ tt σ2 H2 fun b H3 =>
      if b = true then te σ2 H3 fun y H4 => ∃ acc, H4 D = some (.lst acc) ∧ acc.length < sizeLine ∧ Pv (i + 1) (upd H4 D (.lst (acc ++ [y]))) else Pv (i + 1) H3) (hd : ∀ H, Pv z.cps.size H → Qd H) : LcP (Its z) g tt te vs σ D Qd H :=
  lc_by walk_str Pv h0 (fun _ _ _ _ => trivial) (fun i x H H' _ hp y => by obtain ⟨rfl, d, e, rfl⟩ := y; exact hs i d _ e hp) hd
theorem sgnC_at2 (d : Nat) : d ∈ (Str.ofString "abcdefghijklmnopqrstuvwxyz" ++ Str.ofString "0123456789").cps.toList ↔ sgnC d := by
  rw [show (Str.ofString "abcdefghijklmnopqrstuvwxyz" ++ Str.ofString "0123456789").cps.toList = List.range' 97 26 ++ List.range' 48 10 by decide +kernel, List.mem_append, List.mem_range'_1, List.mem_range'_1]
  unfold sgnC
  omega
theorem x_isiLD {K : PySem.W.Frag} {H : Hp} {Q : VK} {x : V} {k : Kn} {tp : Addr} (h : Kd K H x k) (ht : H tp = some (.tup [.ty "list", .ty "dict"])) (q : Q (.bl (isB k .lst || isB k .dict)) H) : rIsiT K [x, .ref tp] H Q := by
  refine ⟨x, tp, _, _, _, _, rfl, ht, .cons (.ty "list") (.cons (.ty "dict") .nil), h.tyx, ?_, q⟩
  cases k <;> rfl
def spKeyL (K : PySem.W.Frag) (w : World) : Sp := fun vs H Q _ => ∃ x G, vs = [x] ∧ ThY K w G x ∧ L2.Same G H ∧ ∀ H' y nk, L2.Same H H' → KeyV K G nk y → nk.depth ≤ 8 → OdX K w G y → nameV y = false → Q y H'
section
variable {P : Program} {w : World} {K : PySem.W.Frag} {mg : Str → Option Value} {base : Heap}
theorem ok_l_is_name {f : Addr} {fd : FuncData} (F : Fun K "_law_is_name" "_law_is_name" s_l_is_name f fd) (Z_str : mg "str" = none) (Z_len : mg "len" = none) (Z_all : mg "all" = none) (Z_isinstance : mg "isinstance" = none) : FnOk P w K mg base CX0 1 f fd ["_law_thing_here"] (spIsNameN K) := by
  refine F.ok sc_l_is_name (fun vs H Q E h => ?_) (fun cdv A outer s H vs Q E hr h => ?_)
  · obtain ⟨_, _, rfl, _⟩ := h
    rfl
  · obtain ⟨x, k, rfl, ⟨hk, hz⟩, q⟩ := h
    have q0 := q H (L2.Same.refl _)
    refine ⟨_, (pss_cons (ps_set (i := 1) sc_l_is_name.nd rfl (Or.inr rfl) pe_str)
      (pss_cons (ps_if (PW.pt (pw_or (pt_not (pt_val (pe_callB call_isi (by rfl) Z_isinstance (by decide +kernel) (pa_cons (pv 0) (pa_cons (pe_bltn (v := .ty "str") (by rfl) Z_str (by decide +kernel) rfl) pa_nil))))) (pw_or (pt_cmpR op_lt (pe_callB call_lenA (by rfl) Z_len (by decide +kernel) (pa_cons (pv 0) pa_nil)) pe_int (nomark _)) (pw_or1 (pt_cmpR op_gt (pe_callB call_lenA (by rfl) Z_len (by decide +kernel) (pa_cons (pv 0) pa_nil)) pe_int (nomark _))))))
      (pss_one (ps_ret pe_bl))
      pss_nil)
      (pss_cons (ps_if (pt_cmpR op_ninSA (pe_ix ix_str (pv 0) pe_int (fun _ _ => rfl)) (pv 1) rfl)
      (pss_one (ps_ret pe_bl))
      pss_nil)
      (pss_one (ps_ret (pe_callB (cr_all rfl) (by rfl) Z_all (by decide +kernel) (pa_cons (pe_lc (own := [("_law_sign", 2)]) (g := gName 2) (tt := tYes) (by rfl) sc_l_is_name.nd (pi_str (pv 0)) (blkOk_by (own := [("_law_sign", 2)]) (N := N_l_is_name) (sc := defScope s_l_is_name) (by decide +kernel)) (fun _ _ _ _ _ => (pg_name (i := 2) sc_l_is_name.nd rfl (Or.inl rfl))) (fun _ _ _ _ _ => pts_nil) (fun _ _ _ _ _ => by exact (pe_cmpR op_inSA (pv 2) (pe_op op_addSA (pv 1) pe_str) rfl))) pa_nil))))))), ?_⟩
    walk_at "go"
    refine x_isiStr hk ?_
    walk_at "go"
    have other : ∀ {x}, (∀ z, x ≠ V.str z) → nameV x = false := fun {x} h => by
      cases x with
      | str z => exact absurd rfl (h z)
      | _ => rfl
    cases hk with
    | str z =>
      have hzl := hz z rfl
      have hzs : z.length ≤ sizeLine := sz_le hzl
      refine x_nT ?_
      walk_at "go"
      refine x_lenS hzs ?_
      walk_at "go"
      have el := str_len z
      refine x_dec (fun h1 => ?_) (fun h1 => ?_)
      · walk_at "go"
        rw [nameV_empty (by rw [el] at h1; omega)] at q0
        exact q0
      · walk_at "go"
        refine x_lenS hzs ?_
        walk_at "go"
        refine x_dec (fun h8 => ?_) (fun h8 => ?_)
        · walk_at "go"
          rw [nameV_long (by rw [el] at h8; omega)] at q0
          exact q0
        · walk_at "go"
          cases ez : z.cps.toList with
          | nil =>
            rw [el, ez] at h1
            simp at h1
          | cons d r =>
            have hl7 : r.length ≤ 7 := by
              rw [el, ez] at h8
              simp at h8
              omega
            refine x_ixs 0 hzs rfl (by rw [ez]; rfl) ?_
            walk_at "go"
            by_cases hlow : lowC d
            · rw [decide_eq_true ((lowC_at d).mpr hlow)]
              walk_at "go"
              refine ⟨z, rfl, fun D hD => ?_⟩
              refine lcS (fun i H' => L2.Same H H' ∧ H' D = some (.lst (((z.cps.toList.take i).map fun e => decide (sgnC e)).map V.bl))) ⟨same_new hD, upd_same⟩ ?_ ?_
              · rintro i e H' he ⟨s1, h2⟩
                have he2 : z.cps.toList[i]? = some e := by rw [Array.getElem?_toList]; exact he
                have hi : i < z.cps.toList.length := (List.getElem?_eq_some_iff.mp he2).1
                walk_at "go"
                refine ⟨rfl, ?_⟩
                walk_at "go"
                refine x_addS (sz_le (by decide +kernel)) ?_
                walk_at "go"
                refine ⟨_, h2, sz_lt (by simp; rw [el] at h8; simp at h8 hi; omega), same_upd s1 hD, ?_⟩
                rw [upd_same, take_succ_get he2]
                simp
                first
                  | exact sgnC_at2 e
                  | (rw [← Array.mem_toList_iff]; exact sgnC_at2 e)
              · rintro H' ⟨s1, h2⟩
                rw [show z.cps.size = z.cps.toList.length by simp, List.take_length] at h2
                refine ⟨D, _, rfl, SqL.of h2, ?_⟩
                have e := q _ s1
                rw [nameV_cons ez hl7 hlow] at e
                exact e
            · rw [decide_eq_false fun z => hlow ((lowC_at d).mp z)]
              walk_at "go"
              rw [nameV_nolow ez hlow] at q0
              exact q0
    | _ =>
      refine x_nF ?_
      walk_at "go"
      rw [other (fun z => by intro e; cases e)] at q0
      exact q0
theorem ok_l_key {f : Addr} {fd : FuncData} (F : Fun K "_law_key" "_law_key" s_l_key f fd) (Z_list : mg "list" = none) (Z_dict : mg "dict" = none) (Z_isinstance : mg "isinstance" = none) : FnOk P w K mg base CX0 1 f fd ["_law_thing_here"] (spKeyL K w) := by
  refine F.ok sc_l_key (fun vs H Q E h => ?_) (fun cdv A outer s H vs Q E hr h => ?_)
  · obtain ⟨_, _, rfl, _⟩ := h
    rfl
  · obtain ⟨x, G, rfl, hx, sG, q⟩ := h
    refine ⟨_, (pss_cons (ps_if (pt_val (pe_callB call_isiT (by rfl) Z_isinstance (by decide +kernel) (pa_cons (pv 0) (pa_cons (pe_tup (pa_cons (pe_bltn (v := .ty "list") (by rfl) Z_list (by decide +kernel) rfl) (pa_cons (pe_bltn (v := .ty "dict") (by rfl) Z_dict (by decide +kernel) rfl) pa_nil))) pa_nil))))
      (pss_one (ps_ret pe_int))
      pss_nil)
      (pss_one (ps_ret (pv 0)))), ?_⟩
    walk_at "go"
    refine ⟨sz_le (by simp), fun tp nt => ?_⟩
    have s1 : L2.Same H (upd H tp (.tup [.ty "list", .ty "dict"])) := same_new nt
    walk_at "go"
    rcases hx.ky with ⟨k, hk, hb⟩ | ⟨nk, hn, hd, k, hk, hb⟩
    · refine x_isiLD (hk.same (sG.trans s1)) upd_same ?_
      rw [hb]
      walk_at "go"
      exact q _ (.int 7) (.num 7) s1 (.int 7) (Nat.zero_le _) ⟨⟨_, .int _, fun z e => by cases e⟩, sml_c (.int 7) (by decide +kernel) (by decide +kernel) (by decide +kernel)⟩ rfl
    · refine x_isiLD (hk.same (sG.trans s1)) upd_same ?_
      rw [hb]
      walk_at "go"
      exact q _ x nk s1 hn hd hx.od hx.nn
theorem ok_l_is_value {f : Addr} {fd : FuncData} (F : Fun K "_law_is_value" "_law_is_value" s_l_is_value f fd) (C_l_is_int : Cal P w K mg base 1 "_law_is_int" ["_law_thing_here"] (spIsInt K)) : FnOk P w K mg base CX0 2 f fd ["_law_thing_here"] (spIsValue K) := by
  refine F.ok sc_l_is_value (fun vs H Q E h => ?_) (fun cdv A outer s H vs Q E hr h => ?_)
  · obtain ⟨_, _, rfl, _⟩ := h
    rfl
  · obtain ⟨x, k, rfl, hk, q⟩ := h
    refine ⟨_, (pss_one (ps_ret (pe_and (pe_cal C_l_is_int (hr.mono (by decide)) (by rfl) (pa_cons (pv 0) pa_nil)) (pe_and (pe_cmpR op_ge (pv 0) (pe_un un_neg pe_int) (nomark _)) (pe_one (pe_cmpR op_le (pv 0) pe_int (nomark _))))))), ?_⟩
    walk_at "go"
    refine ⟨x, k, rfl, hk, ?_⟩
    walk_at "go"
    cases hk with
    | int i =>
      refine x_T ?_
      walk_at "go"
      have e : valueV (.int i) = (decide (-99 ≤ i) && decide (i ≤ 99)) := rfl
      rw [e] at q
      refine x_dec (fun h1 => ?_) (fun h1 => ?_)
      · rw [decide_eq_true (show -99 ≤ i by omega), Bool.true_and] at q
        walk_at "go"
        exact q
      · rw [decide_eq_false (show ¬ -99 ≤ i by omega), Bool.false_and] at q
        exact q
    | non => exact x_F q
    | bl b => exact x_F q
    | str z => exact x_F q
    | lst h => exact x_F q
    | tup h => exact x_F q
    | dict h => exact x_F q
end
/-! ### worths judged, whatever the keys; a wish made or refused -/
theorem rd_heldU {H : Hp} {d b : Addr} {o : Obj} {u x : HO} (h : H d = some u) (hm : Mut (some u)) (r : Rd H b x) : Rd (upd H d (.frz o u)) b x := by
  by_cases hb : b = d
  · subst hb
    rcases r with r | ⟨o', r⟩
    · rw [h] at r
      cases r
      exact .inr ⟨o, upd_same⟩
    · rw [h] at r
      cases r
      exact hm.elim
  · rcases r with r | ⟨o', r⟩
    · exact .inl (by rw [upd_ne hb]; exact r)
    · exact .inr ⟨o', by rw [upd_ne hb]; exact r⟩
section
variable {K : PySem.W.Frag} {w : World} {H H' : Hp} {d : Addr} {o : Obj} {u : HO}
theorem sqT_heldU {b : Addr} {xs : List V} (h : H d = some u) (hm : Mut (some u)) (r : SqT K H b xs) : SqT K (upd H d (.frz o u)) b xs := r.imp (rd_heldU h hm) fun z => z
theorem kd_heldU {x : V} {k : Kn} (h : H d = some u) (hm : Mut (some u)) (r : Kd K H x k) : Kd K (upd H d (.frz o u)) x k := by
  cases r with
  | non => exact .non
  | bl b => exact .bl b
  | int i => exact .int i
  | str z => exact .str z
  | lst r => exact .lst (r.imp (rd_heldU h hm) fun z => z)
  | tup r => exact .tup (sqT_heldU h hm r)
  | dict r => exact .dict (rd_heldU h hm r)
theorem fine_heldU {x : V} {k : Kn} (h : H d = some u) (hm : Mut (some u)) (r : Fine K H x k) : Fine K (upd H d (.frz o u)) x k := ⟨kd_heldU h hm r.1, r.2⟩
theorem unlock_s {u : HO} (h : H d = some u) (s : L2.Same (upd H d (.frz o u)) H') : L2.Same H (upd H' d u) := same_unlockF h s
end
/-- a dict of worths, right or odd -/
structure WD (K : PySem.W.Frag) (w : World) (H : Hp) (W : Addr) (kvs : MV) : Prop where
  wr : MWr w H W kvs
  ks : KeysOk K H kvs
  kf : ∀ q ∈ kvs, ∃ k, Fine K H q.2.1 k
  vf : ∀ q ∈ kvs, ∃ k, Kd K H q.2.2 k
  len : kvs.length ≤ 200
  nd : (kvs.map (·.1)).Nodup
  gd : (∃ m, kvs = mS m ∧ H W = some (.dK (vK m)) ∧ (m.map (·.1)).Nodup ∧ ∀ q ∈ m, NameS q.1) ∨ ∃ q ∈ kvs, nameV q.2.1 = false
theorem WD.same {K : PySem.W.Frag} {w : World} {H H' : Hp} {W : Addr} {kvs : MV} (s : L2.Same H H') (h : WD K w H W kvs) : WD K w H' W kvs :=
  ⟨h.wr.same s, KeysOk.same s h.ks, fun q m => (h.kf q m).elim fun k f => ⟨k, fine_same s f⟩, fun q m => (h.vf q m).elim fun k f => ⟨k, f.same s⟩, h.len, h.nd, h.gd.imp (fun ⟨m, a, b, c⟩ => ⟨m, a, s _ _ b, c⟩) id⟩
theorem WD.md {K : PySem.W.Frag} {w : World} {H : Hp} {W : Addr} {kvs : MV} (h : WD K w H W kvs) : MDict K w H W kvs := ⟨h.wr.rd, h.ks⟩
def WW (K : PySem.W.Frag) (w : World) (H : Hp) (x : V) (o : Option MV) : Prop := (o = none ∧ ∃ k, Kd K H x k ∧ k ≠ .dict) ∨ ∃ W kvs, x = .ref W ∧ o = some kvs ∧ WD K w H W kvs
theorem WW.same {K : PySem.W.Frag} {w : World} {H H' : Hp} {x : V} {o : Option MV} (s : L2.Same H H') (h : WW K w H x o) : WW K w H' x o := h.imp (fun ⟨a, k, b, c⟩ => ⟨a, k, b.same s, c⟩) fun ⟨W, kvs, a, b, c⟩ => ⟨W, kvs, a, b, c.same s⟩
def wOkP (p : NestedKey × V × V) : Bool := nameV p.2.1 && valueV p.2.2
def wgood (kvs : MV) : Bool := decide (kvs.length ≤ 100) && kvs.all wOkP
def wgoodO (o : Option MV) : Bool := o.elim false wgood
def spAreW (K : PySem.W.Frag) (w : World) : Sp := fun vs H Q _ => ∃ x o, vs = [x] ∧ WW K w H x o ∧ ∀ H', L2.Same H H' → Q (.bl (wgoodO o)) H'
theorem not_dict {k : Kn} (h : k ≠ .dict) : isB k .dict = false := by cases k <;> first | rfl | exact absurd rfl h
theorem FzM.same {w : World} {H H' : Hp} {d : Addr} {o : Obj} {kvs : MV} (s : L2.Same H H') (h : FzM w H d o kvs) : FzM w H' d o kvs := h.imp (s _ _) fun ⟨ks, e, q⟩ => ⟨ks, s _ _ e, q⟩
theorem wgood_bad {kvs : MV} {p : NestedKey × V × V} (m : p ∈ kvs) (h : wOkP p = false) : wgood kvs = false := by
  unfold wgood
  have : kvs.all wOkP = false := by
    cases e : kvs.all wOkP with
    | false => rfl
    | true => rw [List.all_eq_true.mp e p m] at h; cases h
  rw [this, Bool.and_false]
section
variable {P : Program} {w : World} {K : PySem.W.Frag} {mg : Str → Option Value} {base : Heap}
theorem ok_are_worths {f : Addr} {fd : FuncData} (F : Fun K "are_worths" "are_worths" s_are_worths f fd) (Z_dict : mg "dict" = none) (Z_len : mg "len" = none) (Z_isinstance : mg "isinstance" = none)
    (C_is_name : Cal P w K mg base 1 "is_name" ["thing"] (spIsName K)) (C_is_value : Cal P w K mg base 2 "is_value" ["thing"] (spIsValue K)) : FnOk P w K mg base CX0 3 f fd ["thing"] (spAreW K w) := by
  refine F.ok sc_are_worths (fun vs H Q E h => ?_) (fun cdv A outer s H vs Q E hr h => ?_)
  · obtain ⟨_, _, rfl, _⟩ := h
    rfl
  · obtain ⟨x, o, rfl, cs, q⟩ := h
    refine ⟨_, (pss_cons (ps_if (PW.pt (pw_or (pt_not (pt_val (pe_callB call_isiU (by rfl) Z_isinstance (by decide +kernel) (pa_cons (pv 0) (pa_cons (pe_bltn (v := .ty "dict") (by rfl) Z_dict (by decide +kernel) rfl) pa_nil))))) (pw_or1 (pt_cmpR op_gt (pe_callB call_lenM (by rfl) Z_len (by decide +kernel) (pa_cons (pv 0) pa_nil)) pe_int (nomark _)))))
      (pss_one (ps_ret pe_bl))
      pss_nil)
      (pss_cons (ps_lock (ps_for PassesOwn.never rfl (pi_itemsU (pv 0)) (pg_tup rfl (pgs_cons (pg_name (i := 1) sc_are_worths.nd rfl (Or.inl rfl)) (pgs_cons (pg_name (i := 2) sc_are_worths.nd rfl (Or.inl rfl)) pgs_nil)))
      (pss_one (ps_if (PW.pt (pw_or (pt_not (pt_val (pe_cal C_is_name (hr.mono (by decide)) (by rfl) (pa_cons (pv 1) pa_nil)))) (pw_or1 (pt_not (pt_val (pe_cal C_is_value (hr.mono (by decide)) (by rfl) (pa_cons (pv 2) pa_nil)))))))
      (pss_one (ps_ret pe_bl))
      pss_nil))))
      (pss_one (ps_ret pe_bl)))), ?_⟩
    walk_at "go"
    rcases cs with ⟨rfl, k, hk, hkd⟩ | ⟨d, kvs, rfl, rfl, hW⟩
    · refine x_isiO (x_isiDict hk ?_)
      rw [not_dict hkd]
      walk_at "go"
      exact q _ (L2.Same.refl _)
    · have q : ∀ H', L2.Same H H' → Q (.bl (wgood kvs)) H' := q
      refine x_isiMd hW.wr.rd ?_
      walk_at "go"
      refine x_lenM hW.wr.rd ?_
      walk_at "go"
      refine x_dec (fun hc => ?_) (fun hc => ?_)
      · walk_at "go"
        have e : wgood kvs = false := by
          unfold wgood
          rw [decide_eq_false (by omega)]
          rfl
        rw [e] at q
        exact q H (L2.Same.refl H)
      · walk_at "go"
        refine x_lockM hW.wr (fun od u hu0 hmu fz => ?_)
        refine x_forIU ?_
        walk_at "go"
        refine lpIU (fun i σ H' => ∃ v1 v2, σ = [some (.ref d), v1, v2] ∧ L2.Same (upd H d (.frz od u)) H' ∧ ∀ p ∈ kvs.take i, wOkP p = true) fz ?_ ?_ ?_ ?_
        · exact ⟨none, none, rfl, L2.Same.refl _, by simp⟩
        · exact fun i σ H' _ ⟨_, _, _, s1, _⟩ => FzM.same s1 fz
        · rintro i p σ H' T hi ⟨v1, v2, rfl, s1, hall⟩ hT
          have hm := List.mem_of_getElem? hi
          obtain ⟨k0, f0⟩ := hW.kf p hm
          obtain ⟨k1, f1⟩ := hW.vf p hm
          have s2 : L2.Same (upd H d (.frz od u)) (upd H' T (.tup [p.2.1, p.2.2])) := same_upd s1 (s1.free hT)
          have hfz : (upd H' T (.tup [p.2.1, p.2.2])) d = some (.frz od u) := s2 d _ upd_same
          have bad : wOkP p = false → (upd H' T (.tup [p.2.1, p.2.2])) d = some (.frz od u) ∧ Q (.bl false) (upd (upd H' T (.tup [p.2.1, p.2.2])) d u) := fun hb => by
            have e := q _ (unlock_s hu0 s2)
            rw [wgood_bad hm hb] at e
            exact ⟨hfz, e⟩
          refine x_g2 (SqT.of upd_same) ?_
          walk_at "go"
          refine ⟨_, k0, rfl, fine_same s2 (fine_heldU hu0 hmu f0), ?_⟩
          walk_at "go"
          cases en : nameV p.2.1 with
          | false =>
            walk_at "go"
            exact bad (by unfold wOkP; rw [en]; rfl)
          | true =>
            walk_at "go"
            refine ⟨_, k1, rfl, (kd_heldU hu0 hmu f1).same s2, ?_⟩
            walk_at "go"
            cases ev : valueV p.2.2 with
            | false =>
              walk_at "go"
              exact bad (by unfold wOkP; rw [en, ev]; rfl)
            | true =>
              walk_at "go"
              refine ⟨_, _, rfl, s2, fun p' hp => ?_⟩
              rw [take_succ_get hi] at hp
              rcases List.mem_append.mp hp with hp | hp
              · exact hall p' hp
              · rw [List.mem_singleton.mp hp]
                unfold wOkP
                rw [en, ev]
                rfl
        · rintro σ H' ⟨v1, v2, rfl, s1, hall⟩
          refine ⟨s1 d _ upd_same, ?_⟩
          walk_at "go"
          rw [List.take_length] at hall
          have e := q _ (unlock_s hu0 s1)
          rw [show wgood kvs = true by unfold wgood; rw [decide_eq_true (by omega), List.all_eq_true.mpr hall]; rfl] at e
          exact e
end
/-! ### a wish made or refused -/
/-- worths as a table -/
def mI (l : List (Str × Int)) : MV := mS (l.map fun q => (q.1, V.int q.2))
theorem vK_int (l : List (Str × Int)) : vK (l.map fun q => (q.1, V.int q.2)) = strK V.int l := by unfold vK strK; rw [List.map_map]; rfl
def GoodO (o : Option MV) (e : V) : Prop := ∃ l i, o = some (mI l) ∧ e = .int i ∧ GoodW l i
theorem mS_inj : ∀ {a b : List (Str × V)}, mS a = mS b → a = b
  | [], [], _ => rfl
  | [], (z, v) :: r, h => by rw [mS_cons] at h; cases h
  | (z, v) :: r, [], h => by rw [mS_cons] at h; cases h
  | (z, v) :: r, (z', v') :: r', h => by
    rw [mS_cons, mS_cons] at h
    injection h with h1 h2
    injection h1 with h3 h4
    injection h3 with h3
    injection h4 with _ h5
    rw [h3, h5, mS_inj h2]
theorem mI_inj {a b : List (Str × Int)} (h : mI a = mI b) : a = b := by
  have h := mS_inj h
  induction a generalizing b with
  | nil => cases b with
    | nil => rfl
    | cons => cases h
  | cons p r ih => cases b with
    | nil => cases h
    | cons q s =>
      rw [List.map_cons, List.map_cons] at h
      injection h with h1 h2
      injection h1 with h3 h4
      injection h4 with h4
      have : p = q := Prod.ext h3 h4
      rw [this, ih (b := s) (by unfold mI; rw [h2]) h2]
theorem valueV_int {v : V} (h : valueV v = true) : ∃ i, v = .int i ∧ -99 ≤ i ∧ i ≤ 99 := by
  cases v with
  | int i =>
    have h : (decide (-99 ≤ i) && decide (i ≤ 99)) = true := h
    rw [Bool.and_eq_true] at h
    exact ⟨i, rfl, of_decide_eq_true h.1, of_decide_eq_true h.2⟩
  | _ => cases h
theorem ints_of : ∀ {m : List (Str × V)}, (∀ q ∈ m, valueV q.2 = true) → ∃ l : List (Str × Int), m = l.map (fun q => (q.1, V.int q.2)) ∧ ∀ q ∈ l, -99 ≤ q.2 ∧ q.2 ≤ 99
  | [], _ => ⟨[], rfl, fun q h => by cases h⟩
  | (z, v) :: r, h => by
    obtain ⟨l, h1, h2⟩ := ints_of (m := r) fun q hq => h q (List.mem_cons_of_mem _ hq)
    obtain ⟨i, e, b1, b2⟩ := valueV_int (h (z, v) List.mem_cons_self)
    have e : v = .int i := e
    refine ⟨(z, i) :: l, by rw [List.map_cons, ← h1, e], fun q hq => ?_⟩
    rcases List.mem_cons.mp hq with rfl | hq
    · exact ⟨b1, b2⟩
    · exact h2 q hq
/-- right worths: an own dict of whole numbers -/
theorem WD.ints {K : PySem.W.Frag} {w : World} {H : Hp} {W : Addr} {kvs : MV} (h : WD K w H W kvs) (g : wgood kvs = true) : ∃ l, kvs = mI l ∧ H W = some (.dK (strK V.int l)) ∧ (l.map (·.1)).Nodup ∧ l.length ≤ 100 ∧ (∀ q ∈ l, NameS q.1) ∧ ∀ q ∈ l, -99 ≤ q.2 ∧ q.2 ≤ 99 := by
  unfold wgood at g
  rw [Bool.and_eq_true] at g
  obtain ⟨g1, g2⟩ := g
  have g1 := of_decide_eq_true g1
  rw [List.all_eq_true] at g2
  rcases h.gd with ⟨m, rfl, hd, nd, nm⟩ | ⟨q, hq, e⟩
  · obtain ⟨l, rfl, hb⟩ := ints_of (m := m) fun q hq => by
      have : (Key × V) := (Sum.inr q.1, q.2)
      have := g2 (.text q.1, .str q.1, q.2) (by unfold mS; exact List.mem_map.mpr ⟨(Sum.inr q.1, q.2), List.mem_map.mpr ⟨q, hq, rfl⟩, rfl⟩)
      unfold wOkP at this
      rw [Bool.and_eq_true] at this
      exact this.2
    rw [vK_int] at hd
    rw [mS_len, List.length_map] at g1
    refine ⟨l, rfl, hd, by rw [List.map_map] at nd; exact nd, g1, fun q hq => nm (q.1, .int q.2) (List.mem_map.mpr ⟨q, hq, rfl⟩), hb⟩
  · have := g2 q hq
    unfold wOkP at this
    rw [e] at this
    cases this
theorem wgood_of {l : List (Str × Int)} {i : Int} (g : GoodW l i) : wgood (mI l) = true := by
  unfold wgood
  rw [Bool.and_eq_true]
  refine ⟨decide_eq_true (by unfold mI; rw [mS_len, List.length_map]; exact g.len), List.all_eq_true.mpr fun p hp => ?_⟩
  obtain ⟨q0, hq0, rfl⟩ := mS_mem hp
  obtain ⟨q, hq, rfl⟩ := List.mem_map.mp hq0
  have h := g.lo q hq
  show (nameV (.str q.1) && valueV (.int q.2)) = true
  rw [(g.nm q hq).v]
  show (true && (decide _ && decide _)) = true
  rw [decide_eq_true h.1, decide_eq_true h.2]
  rfl
def spWishX (K : PySem.W.Frag) (w : World) (C CBW : Addr) : Sp := fun vs H Q E => ∃ (s dx : Addr) (x e : V) (o : Option MV), vs = [.ref s, x, e] ∧ H s = some (.ins C dx []) ∧ WW K w H x o ∧ (∃ k, Kd K H e k) ∧
  (∀ l i, o = some (mI l) → e = .int i → GoodW l i → ∀ H', (∀ b o, H b = some o → b ≠ s → H' b = some o) → WishAt C H' s l i → Q .non H') ∧
  (¬ GoodO o e → ∀ H', (∀ b o, H b = some o → b ≠ s → H' b = some o) → E (.ref CBW) none H')
section
variable {P : Program} {w : World} {K : PySem.W.Frag} {mg : Str → Option Value} {base : Heap} {C CBW : Addr}
theorem ok_Wish_initX {f : Addr} {fd : FuncData} (F : Fun K "__init__" "Wish.__init__" s_Wish_init f fd) (K_Wish : Cls K C) (N1 : NoAttr K C "table") (N2 : NoAttr K C "endless") (N3 : NoAttr K C "coming") (Z_list : mg "list" = none) (Z_all : mg "all" = none) (Z_sorted : mg "sorted" = none) (E_BadWish : Exc0 K mg "BadWish" CBW)
    (C_are_worths : Cal P w K mg base 3 "are_worths" ["thing"] (spAreW K w)) (C_is_value : Cal P w K mg base 2 "is_value" ["thing"] (spIsValue K)) : FnOk P w K mg base (L2.CX P w) 4 f fd ["self", "worths", "endless"] (spWishX K w C CBW) := by
  refine F.okX sc_Wish_init (fun vs H Q E h => ?_) (fun cdv A outer s H vs Q E hr h => ?_)
  · obtain ⟨_, _, _, _, _, rfl, _⟩ := h
    rfl
  · obtain ⟨a, dx, x, ev0, o, rfl, ha, hW, ⟨ke, hke⟩, kg, kb⟩ := h
    have hu := hu_of hr
    have keep : ∀ {H'}, L2.Same H H' → ∀ b o, H b = some o → b ≠ a → H' b = some o := fun s b o e _ => s b o e
    refine ⟨_, (pss_cons (ps_if (PW.pt (pw_or (pt_not (pt_val (pe_cal C_are_worths (hr.mono (by decide)) (by rfl) (pa_cons (pv 1) pa_nil)))) (pw_or1 (pt_not (pt_val (pe_cal C_is_value (hr.mono (by decide)) (by rfl) (pa_cons (pv 2) pa_nil)))))))
      (pss_one (ps_raise0 rfl (takes_of rfl rfl rfl rfl) E_BadWish (by rfl)))
      pss_nil)
      (pss_cons (ps_set (i := 3) sc_Wish_init.nd rfl (Or.inl rfl) (pe_callB (cr_all rfl) (by rfl) Z_all (by decide +kernel) (pa_cons (pe_lc (own := [("value", 5)]) (g := gName 5) (tt := tYes) (by rfl) sc_Wish_init.nd (pi_list (pe_listV (by rfl) (pv 1) (by rfl) Z_list)) (blkOk_by (own := [("value", 5)]) (N := N_Wish_init) (sc := defScope s_Wish_init) (by decide +kernel)) (fun _ _ _ _ _ => (pg_name (i := 5) sc_Wish_init.nd rfl (Or.inl rfl))) (fun _ _ _ _ _ => pts_nil) (fun _ _ _ _ _ => by exact (pe_cmpR op_le (pv 2) (pv 5) (nomark _)))) pa_nil)))
      (pss_cons (ps_set (i := 4) sc_Wish_init.nd rfl (Or.inl rfl) (pe_callB (cr_all rfl) (by rfl) Z_all (by decide +kernel) (pa_cons (pe_lc (own := [("value", 5)]) (g := gName 5) (tt := tYes) (by rfl) sc_Wish_init.nd (pi_list (pe_listV (by rfl) (pv 1) (by rfl) Z_list)) (blkOk_by (own := [("value", 5)]) (N := N_Wish_init) (sc := defScope s_Wish_init) (by decide +kernel)) (fun _ _ _ _ _ => (pg_name (i := 5) sc_Wish_init.nd rfl (Or.inl rfl))) (fun _ _ _ _ _ => pts_nil) (fun _ _ _ _ _ => by exact (pe_cmpR op_ge (pv 2) (pv 5) (nomark _)))) pa_nil)))
      (pss_cons (ps_if (PW.pt (pw_and (pt_not (pt_val (pv 3))) (pw_and1 (pt_not (pt_val (pv 4))))))
      (pss_one (ps_raise0 rfl (takes_of rfl rfl rfl rfl) E_BadWish (by rfl)))
      pss_nil)
      (pss_cons (ps_fld (pv 0) (pe_dc (own := [("name", 6)]) (g := gName 6) (tt := tYes) (by rfl) sc_Wish_init.nd (pi_list (pe_callB (call_sortedDA rfl) (by rfl) Z_sorted (by decide +kernel) (pa_cons (pv 1) pa_nil))) (blkOk_by (own := [("name", 6)]) (N := N_Wish_init) (sc := defScope s_Wish_init) (by decide +kernel)) (fun _ _ _ _ _ => (pg_name (i := 6) sc_Wish_init.nd rfl (Or.inl rfl))) (fun _ _ _ _ _ => pts_nil) (fun _ _ _ _ _ => by exact (pv 6)) (fun _ _ _ _ _ => by exact (pe_dget hu (pv 1) (pv 6) (fun _ _ => rfl)))) rfl)
      (pss_cons (ps_fld (pv 0) (pv 2) rfl)
      (pss_one (ps_fld (pv 0) (pv 3) rfl)))))))), ?_⟩
    walk_at "go"
    refine ⟨x, o, rfl, hW, fun H1 s1 => ?_⟩
    cases hg : wgoodO o with
    | false =>
      walk_at "go"
      refine x_raise0 ?_
      exact kb (fun ⟨l, i, e1, e2, g⟩ => by rw [e1] at hg; have := wgood_of g; rw [show wgoodO (some (mI l)) = wgood (mI l) from rfl, this] at hg; cases hg) _ (keep s1)
    | true =>
    obtain ⟨d, kvs, rfl, rfl, hWD⟩ : ∃ W kvs, x = .ref W ∧ o = some kvs ∧ WD K w H W kvs := by
      rcases hW with ⟨rfl, _⟩ | h
      · cases hg
      · exact h
    obtain ⟨l, rfl, hd, gnd, glen, gnm, glo⟩ := hWD.ints hg
    walk_at "go"
    refine ⟨ev0, ke, rfl, hke.same s1, ?_⟩
    cases hev : valueV ev0 with
    | false =>
      walk_at "go"
      refine x_raise0 ?_
      refine kb (fun ⟨l', i, _, e2, g⟩ => ?_) _ (keep s1)
      rw [e2] at hev
      have : (decide (-99 ≤ i) && decide (i ≤ 99)) = false := hev
      rw [decide_eq_true g.elo.1, decide_eq_true g.elo.2] at this
      cases this
    | true =>
    obtain ⟨e, rfl, el1, el2⟩ := valueV_int hev
    have k := fun sd => kg l e rfl rfl ⟨gnd, glen, gnm, glo, ⟨el1, el2⟩, sd⟩
    have kb : ¬ Side e l → ∀ H', (∀ b o, H b = some o → b ≠ a → H' b = some o) → E (.ref CBW) none H' := fun ns => kb fun ⟨l', i, e1, e2, g⟩ => ns (by
      injection e1 with e1
      injection e2 with e2
      rw [mI_inj e1, e2]
      exact g.side)
    walk_at "go"
    have hll : l.length ≤ 1000 := by omega
    have hd1 := s1 d _ hd
    refine lc_vals (j := 2) (n := 5) (e := e) (g := fun i j => decide (i ≤ j)) (.inl hd1) hll (by decide) ?hn rfl fun H2 D s2 hD hD2 => ?_
    case hn => exact (by decide : 5 < 7)
    walk_at "go"
    refine ⟨D, _, rfl, SqL.of hD2, ?_⟩
    have eb : (List.map (fun q : Str × Int => decide (e ≤ q.2)) l).all id = comingB l e := by rw [List.all_map]; rfl
    rw [eb]
    walk_at "go"
    have hd2 := s2 d _ hd1
    refine lc_vals (j := 2) (n := 5) (e := e) (g := fun i j => decide (j ≤ i)) (.inl hd2) hll (by decide) ?hn rfl fun H3 D3 s3 hD3 hD33 => ?_
    case hn => exact (by decide : 5 < 7)
    walk_at "go"
    refine ⟨D3, _, rfl, SqL.of hD33, ?_⟩
    walk_at "go"
    have hd3 := s3 d _ hd2
    have s13 : L2.Same H H3 := (s1.trans s2).trans s3
    refine x_ite (fun h1 => ?_) (fun h1 => ?_)
    focus
      walk_at "go"
      refine x_ite (fun h2 => ?_) (fun h2 => ?_)
    focus
      walk_at "go"
      refine x_raise0 ?_
      refine kb (fun sd => ?_) _ (keep s13)
      rcases sd with h | h
      · have : comingB l e = true := List.all_eq_true.mpr fun q hq => decide_eq_true (h q hq)
        rw [this] at h1
        cases h1
      · have : (List.map (fun q : Str × Int => decide (q.2 ≤ e)) l).all id = true := by
          rw [List.all_map]
          exact List.all_eq_true.mpr fun q hq => decide_eq_true (h q hq)
        rw [this] at h2
        cases h2
    all_goals walk_at "go"
    all_goals
      have ek : (strK V.int l).map (·.1) = (l.map (·.1)).map Sum.inr := by rw [List.map_map, List.map_map]; rfl
      refine ⟨d, _, l.map (·.1), rfl, .inl hd3, ek, by rw [List.length_map]; omega, fun ys q hperm hsort hq => runL (SqL.of upd_same) fun D4 hD4 => ?_⟩
      have hq4 : q ≠ D4 := ne_of_none upd_same hD4
      have hD40 : H3 D4 = none := by rw [upd_ne hq4.symm] at hD4; exact hD4
      have ynd : ys.Nodup := (hperm.nodup_iff).mpr gnd
      have ylen : ys.length = l.length := by rw [hperm.length_eq, List.length_map]
      refine dcL (xs := ys.map V.str) (fun t H' => L2.Same H3 H' ∧ H' q = some (.lst (ys.map V.str)) ∧ H' D4 = some (.dK (strK V.int ((ys.take t).map fun z => (z, (l.lookup z).getD 0))))) ?_ ?_ ?_ ?_
      · exact ⟨same_upd (same_new hq) hD40, by rw [upd_ne hq4]; exact upd_same, upd_same⟩
      · exact fun t H' _ h => SqL.of h.2.1
      · rintro t x H' hx ⟨s4, hq1, hD41⟩
        rw [List.getElem?_map] at hx
        cases hz : ys[t]? with
        | none => rw [hz] at hx; cases hx
        | some z =>
          rw [hz] at hx
          have ex : V.str z = x := Option.some.inj hx
          subst ex
          have hlt : t < ys.length := (List.getElem?_eq_some_iff.mp hz).1
          have hzm : z ∈ l.map (·.1) := hperm.mem_iff.mp (List.mem_of_getElem? hz)
          obtain ⟨xz, hxz⟩ := lookup_isSome hzm
          walk_at "go"
          refine ⟨rfl, ?_⟩
          walk_at "go"
          refine x_getS (kvs := strK V.int l) (.inl (s4 d _ hd3)) (v := .int xz) (by rw [strK_look, hxz]; rfl) ?_
          refine ⟨_, Sum.inr z, rfl, hD41, sz_lt (by simp; omega), same_upd s4 hD40, by rw [upd_ne hq4]; exact hq1, ?_⟩
          rw [upd_same, strK_put, putL_new, take_succ_get hz, List.map_append]
          · simp [hxz]
          · rw [List.map_map]
            intro hm
            obtain ⟨z', hz', e'⟩ := List.mem_map.mp hm
            have e2 : z' = z := e'
            subst e2
            obtain ⟨i, hi, he⟩ := List.getElem_of_mem hz'
            have hi2 : i < t := by simp at hi; omega
            have h5 : ys[i]? = some z' := by
              rw [List.getElem_take] at he
              rw [List.getElem?_eq_getElem (by omega), he]
            have := L2.nd_ix ynd h5 hz
            omega
      · rintro H4 ⟨s4, hq1, hD41⟩
        rw [List.length_map, List.take_length] at hD41
        have s14 : L2.Same H H4 := s13.trans s4
        have aD : a ≠ D4 := fun z => by rw [z] at ha; rw [s13 _ _ ha] at hD40; cases hD40
        walk_at "go"
        refine x_sf K_Wish N1 (s14 _ _ ha) (by decide) ?_
        walk_at "go"
        refine x_sf K_Wish N2 upd_same (Nat.lt_of_le_of_lt (length_putF _ _ _) (by show 0 + 1 < 1000; decide)) ?_
        walk_at "go"
        refine x_sf K_Wish N3 upd_same (Nat.lt_of_le_of_lt (length_putF _ _ _) (Nat.lt_of_le_of_lt (Nat.succ_le_succ (length_putF _ _ _)) (by show 0 + 1 + 1 < 1000; decide))) ?_
        have sd : Side e l := by
          first
            | (refine .inl ?_
               cases hc : comingB l e with
               | true => exact fun p hp => of_decide_eq_true (List.all_eq_true.mp hc p hp)
               | false => rw [hc] at h1; simp at h1)
            | (refine .inr ?_
               cases hc : (List.map (fun q : Str × Int => decide (q.2 ≤ e)) l).all id with
               | true => rw [List.all_map] at hc; exact fun p hp => of_decide_eq_true (List.all_eq_true.mp hc p hp)
               | false => rw [hc] at h2; simp at h2)
        refine k sd _ (fun b o e n => ?_) ⟨⟨dx, D4, ys.map fun z => (z, (l.lookup z).getD 0), ?_, ?_, table_perm gnd hperm 0, ?_⟩⟩
        · rw [upd_ne n, upd_ne n, upd_ne n]
          exact s14 b o e
        · rw [upd_same]
          rfl
        · rw [upd_ne aD.symm, upd_ne aD.symm, upd_ne aD.symm]
          exact hD41
        · rw [List.map_map]
          have : ((fun x : Str × Int => x.1) ∘ fun z => (z, (l.lookup z).getD 0)) = id := rfl
          rw [this, List.map_id]
          exact hsort
end
/-! ### worths judged by the law -/
theorem valM_at : ∀ {kvs : MV} {i : Nat} {q : NestedKey × V × V}, (kvs.map (·.1)).Nodup → kvs[i]? = some q → valM kvs q.1 = some q.2.2
  | [], _, _, _, h => by simp at h
  | p :: r, 0, q, _, h => by
    have e : p = q := by simpa using h
    rw [e, valM, if_pos rfl]
  | p :: r, i + 1, q, nd, h => by
    rw [List.map_cons, List.nodup_cons] at nd
    have h : r[i]? = some q := by simpa using h
    rw [valM, if_neg (fun e => nd.1 (by rw [e]; exact List.mem_map.mpr ⟨q, List.mem_of_getElem? h, rfl⟩))]
    exact valM_at nd.2 h
theorem x_mgetQ {K : PySem.W.Frag} {w : World} {H : Hp} {Q : VK} {a : Addr} {kvs : MV} {i : Nat} {p : NestedKey × V × V} (m : MDict K w H a kvs) (nd : (kvs.map (·.1)).Nodup) (hi : kvs[i]? = some p) (q : Q p.2.2 H) : rMGetA K w (.ref a) p.2.1 H Q :=
  ⟨a, p.2.2, rfl, ⟨kvs, p.1, m.rd, m.ks, (m.ks p (List.mem_of_getElem? hi)).1, (m.ks p (List.mem_of_getElem? hi)).2, (valM_at nd hi).symm⟩, q⟩
theorem pe_mgetK {X : Cx} {K : PySem.W.Frag} {w : World} {o i : Expr} {pos : Pos} {td ty : TE} (hu : X.A.units + 100 < cLine) (ho : PE X o td) (hi : PE X i ty) (hs : NoSl i) (eK : X.K = K := by rfl) (ew : X.w = w := by rfl) : PE X (.Subscript o i pos) (tMGet K w td ty) := by
  subst eK ew
  exact pe_mget hu ho hi hs
def RunKU (w : World) (R : It → Hp → Prop) (x : V) (H : Hp) : Prop := ∃ d o kvs, x = .ref d ∧ FzM w H d o kvs ∧ R (Itkm w d o kvs) H
section
variable {w : World} {d p : Addr} {o : Obj} {kvs : MV} {σ : L2.St} {H : Hp} {te : TE} {tt : TT} {g : TG} {vs : List Nat} {D : Addr} {Qd : Hp → Prop}
theorem x_iKU {R : It → Hp → Prop} (h : te σ H fun x H1 => RunKU w R x H1) : iKeysU w te σ H R := h
theorem runKU {R : It → Hp → Prop} (h : FzM w H p o kvs) (q : R (Itkm w p o kvs) H) : RunKU w R (.ref p) H := ⟨p, o, kvs, rfl, h, q⟩
theorem lcKU (Pv : Nat → Hp → Prop) (h0 : Pv 0 (upd H D (.lst []))) (hG : ∀ i H, i ≤ kvs.length → Pv i H → FzM w H p o kvs)
    (hs : ∀ i q H, kvs[i]? = some q → Pv i H → g q.2.1 (wipe σ vs) H fun σ2 H2 => wipe σ2 vs = wipe σ vs ∧ tt σ2 H2 fun b H3 =>
      if b = true then te σ2 H3 fun y H4 => ∃ acc, H4 D = some (.lst acc) ∧ acc.length < sizeLine ∧ Pv (i + 1) (upd H4 D (.lst (acc ++ [y]))) else Pv (i + 1) H3) (hd : ∀ H, Pv kvs.length H → Qd H) : LcP (Itkm w p o kvs) g tt te vs σ D Qd H :=
  lc_by walk_keysM Pv h0 hG (fun i x H H' _ hp y => by obtain ⟨rfl, q, e, rfl⟩ := y; exact hs i q _ e hp) hd
end
def spGoodL (K : PySem.W.Frag) (w : World) : Sp := fun vs H Q _ => ∃ (x e : V) (o : Option MV), vs = [x, e] ∧ WW K w H x o ∧ (∃ k, Kd K H e k) ∧ ∀ H' b, L2.Same H H' → (b = true ↔ GoodO o e) → Q (.bl b) H'
theorem mI_at {l : List (Str × Int)} {i : Nat} {q : NestedKey × V × V} (h : (mI l)[i]? = some q) : ∃ z x, l[i]? = some (z, x) ∧ q = (.text z, .str z, .int x) := by
  unfold mI mS strK at h
  rw [List.getElem?_map, List.getElem?_map, List.getElem?_map] at h
  cases e : l[i]? with
  | none => rw [e] at h; cases h
  | some p => rw [e] at h; exact ⟨p.1, p.2, rfl, (Option.some.inj h).symm⟩
section
variable {P : Program} {w : World} {K : PySem.W.Frag} {mg : Str → Option Value} {base : Heap}
theorem ok_l_is_good {f : Addr} {fd : FuncData} (F : Fun K "_law_is_good" "_law_is_good" s_l_is_good f fd) (Z_dict : mg "dict" = none) (Z_len : mg "len" = none) (Z_all : mg "all" = none) (Z_isinstance : mg "isinstance" = none)
    (C_l_is_name : Cal P w K mg base 1 "_law_is_name" ["_law_thing_here"] (spIsNameN K)) (C_l_is_value : Cal P w K mg base 2 "_law_is_value" ["_law_thing_here"] (spIsValue K)) : FnOk P w K mg base CX0 3 f fd ["_law_worths", "_law_endless_here"] (spGoodL K w) := by
  refine F.ok sc_l_is_good (fun vs H Q E h => ?_) (fun cdv A outer s H vs Q E hr h => ?_)
  · obtain ⟨_, _, _, rfl, _⟩ := h
    rfl
  · obtain ⟨x, ev0, o, rfl, cs, ⟨ke, hke⟩, q⟩ := h
    have hu := hu_of hr
    refine ⟨_, (pss_cons (ps_if (PW.pt (pw_or (pt_not (pt_val (pe_callB call_isiU (by rfl) Z_isinstance (by decide +kernel) (pa_cons (pv 0) (pa_cons (pe_bltn (v := .ty "dict") (by rfl) Z_dict (by decide +kernel) rfl) pa_nil))))) (pw_or (pt_cmpR op_gt (pe_callB call_lenM (by rfl) Z_len (by decide +kernel) (pa_cons (pv 0) pa_nil)) pe_int (nomark _)) (pw_or1 (pt_not (pt_val (pe_cal C_l_is_value (hr.mono (by decide)) (by rfl) (pa_cons (pv 1) pa_nil))))))))
      (pss_one (ps_ret pe_bl))
      pss_nil)
      (pss_cons (ps_lock (ps_for PassesOwn.never rfl (pi_keysU (pv 0)) (pg_name (i := 2) sc_l_is_good.nd rfl (Or.inl rfl))
      (pss_one (ps_if (PW.pt (pw_or (pt_not (pt_val (pe_cal C_l_is_name (hr.mono (by decide)) (by rfl) (pa_cons (pv 2) pa_nil)))) (pw_or1 (pt_not (pt_val (pe_cal C_l_is_value (hr.mono (by decide)) (by rfl) (pa_cons (pe_mget (hu100 hr) (pv 0) (pv 2) (fun _ _ => rfl)) pa_nil)))))))
      (pss_one (ps_ret pe_bl))
      pss_nil))))
      (pss_cons (ps_set (i := 3) sc_l_is_good.nd rfl (Or.inl rfl) (pe_callB (cr_all rfl) (by rfl) Z_all (by decide +kernel) (pa_cons (pe_lock (pe_lc (own := [("_law_name", 2)]) (g := gName 2) (tt := tYes) (by rfl) sc_l_is_good.nd (pi_keysU (pv 0)) (blkOk_by (own := [("_law_name", 2)]) (N := N_l_is_good) (sc := defScope s_l_is_good) (by decide +kernel)) (fun _ _ _ _ _ => (pg_name (i := 2) sc_l_is_good.nd rfl (Or.inl rfl))) (fun _ _ _ _ _ => pts_nil) (fun _ _ _ _ _ => by exact (pe_cmpR op_le (pv 1) (pe_mgetK (K := K) (w := w) (hu100 hr) (pv 0) (pv 2) (fun _ _ => rfl)) (nomark _))))) pa_nil)))
      (pss_one (ps_ret (pe_or (pv 3) (pe_one (pe_callB (cr_all rfl) (by rfl) Z_all (by decide +kernel) (pa_cons (pe_lock (pe_lc (own := [("_law_name", 2)]) (g := gName 2) (tt := tYes) (by rfl) sc_l_is_good.nd (pi_keysU (pv 0)) (blkOk_by (own := [("_law_name", 2)]) (N := N_l_is_good) (sc := defScope s_l_is_good) (by decide +kernel)) (fun _ _ _ _ _ => (pg_name (i := 2) sc_l_is_good.nd rfl (Or.inl rfl))) (fun _ _ _ _ _ => pts_nil) (fun _ _ _ _ _ => by exact (pe_cmpR op_ge (pv 1) (pe_mgetK (K := K) (w := w) (hu100 hr) (pv 0) (pv 2) (fun _ _ => rfl)) (nomark _))))) pa_nil))))))))), ?_⟩
    walk_at "go"
    have no : ∀ H', L2.Same H H' → ¬ GoodO o ev0 → Q (.bl false) H' := fun H' s hn => q H' false s ⟨(fun h => by cases h), fun h => absurd h hn⟩
    rcases cs with ⟨rfl, k, hk, hkd⟩ | ⟨d, kvs, rfl, rfl, hW⟩
    · refine x_isiO (x_isiDict hk ?_)
      rw [not_dict hkd]
      walk_at "go"
      exact no _ (L2.Same.refl _) fun ⟨_, _, e, _⟩ => by cases e
    · have badW : wgood kvs = false → ∀ H', L2.Same H H' → Q (.bl false) H' := fun hb H' s => no H' s fun ⟨l, i, e1, _, g⟩ => by
        injection e1 with e1
        rw [e1, wgood_of g] at hb
        cases hb
      refine x_isiMd hW.wr.rd ?_
      walk_at "go"
      refine x_lenM hW.wr.rd ?_
      walk_at "go"
      refine x_dec (fun hc => ?_) (fun hc => ?_)
      · walk_at "go"
        exact badW (by unfold wgood; rw [decide_eq_false (by omega)]; rfl) _ (L2.Same.refl _)
      · walk_at "go"
        refine ⟨ev0, ke, rfl, hke, ?_⟩
        cases hev : valueV ev0 with
        | false =>
          walk_at "go"
          refine no _ (L2.Same.refl _) fun ⟨l', i, _, e2, g⟩ => ?_
          rw [e2] at hev
          have : (decide (-99 ≤ i) && decide (i ≤ 99)) = false := hev
          rw [decide_eq_true g.elo.1, decide_eq_true g.elo.2] at this
          cases this
        | true =>
        walk_at "go"
        refine x_lockM hW.wr (fun od u hu0 hmu fz => ?_)
        have sf : ∀ {H'}, L2.Same (upd H d (.frz od u)) H' → MDict K w H' d kvs := fun s => ⟨(fz.rd).same s, KeysOk.same s (hW.ks.via fun _ _ => sqT_heldU hu0 hmu)⟩
        refine x_forKU ?_
        walk_at "go"
        refine lpKU (fun i σ H' => ∃ v2, σ = [some (.ref d), some ev0, v2, none] ∧ L2.Same (upd H d (.frz od u)) H' ∧ ∀ p ∈ kvs.take i, wOkP p = true) fz ?_ ?_ ?_ ?_
        · exact ⟨none, rfl, L2.Same.refl _, by simp⟩
        · exact fun i σ H' _ ⟨_, _, s1, _⟩ => FzM.same s1 fz
        · rintro i p σ H' hi ⟨v2, rfl, s1, hall⟩
          have hm := List.mem_of_getElem? hi
          obtain ⟨k0, f0⟩ := hW.kf p hm
          obtain ⟨k1, f1⟩ := hW.vf p hm
          have bad : wOkP p = false → ∀ H2, L2.Same H' H2 → H2 d = some (.frz od u) ∧ Q (.bl false) (upd H2 d u) := fun hb H2 s2 =>
            ⟨(s1.trans s2) _ _ upd_same, badW (wgood_bad hm hb) _ (unlock_s hu0 (s1.trans s2))⟩
          walk_at "go"
          refine ⟨_, k0, rfl, fine_same s1 (fine_heldU hu0 hmu f0), fun H2 s2 => ?_⟩
          walk_at "go"
          cases en : nameV p.2.1 with
          | false =>
            walk_at "go"
            exact bad (by unfold wOkP; rw [en]; rfl) _ s2
          | true =>
            walk_at "go"
            refine x_mget ?_
            walk_at "go"
            refine x_mgetQ (sf (s1.trans s2)) hW.nd hi ?_
            walk_at "go"
            refine ⟨_, k1, rfl, (kd_heldU hu0 hmu f1).same (s1.trans s2), ?_⟩
            walk_at "go"
            cases evv : valueV p.2.2 with
            | false =>
              walk_at "go"
              exact bad (by unfold wOkP; rw [en, evv]; rfl) _ s2
            | true =>
              walk_at "go"
              refine ⟨_, rfl, s1.trans s2, fun p' hp => ?_⟩
              rw [take_succ_get hi] at hp
              rcases List.mem_append.mp hp with hp | hp
              · exact hall p' hp
              · rw [List.mem_singleton.mp hp]
                unfold wOkP
                rw [en, evv]
                rfl
        · rintro σ H' ⟨v2, rfl, s1, hall⟩
          refine ⟨s1 d _ upd_same, ?_⟩
          rw [List.take_length] at hall
          have hgood : wgood kvs = true := by unfold wgood; rw [decide_eq_true (by omega), List.all_eq_true.mpr hall]; rfl
          obtain ⟨l, rfl, hd, gnd, glen, gnm, glo⟩ := hW.ints hgood
          obtain ⟨e, rfl, el1, el2⟩ := valueV_int hev
          have s2 := unlock_s hu0 s1
          generalize upd H' d u = H2 at s2
          have mlen : (mI l).length = l.length := by unfold mI; rw [mS_len, List.length_map]
          have fin : ∀ (H' : Hp) (b : Bool), L2.Same H H' → (b = true ↔ Side e l) → Q (.bl b) H' := fun H' b s hb => q H' b s (hb.trans ⟨fun sd => ⟨l, e, rfl, rfl, ⟨gnd, glen, gnm, glo, ⟨el1, el2⟩, sd⟩⟩, fun ⟨l', i, e1, e2, g⟩ => by
            injection e1 with e1
            injection e2 with e2
            rw [mI_inj e1, e2]
            exact g.side⟩)
          -- the worths, all
          walk_at "go"
          refine x_lockME (hW.wr.same s2) (fun od4 u4 hu4 hmu4 fz4 => ?_)
          refine x_iKU ?_
          walk_at "go"
          refine runKU fz4 ?_
          intro B4 hB4
          have nB4 : B4 ≠ d := fun z => by rw [z, upd_same] at hB4; cases hB4
          have hm4 : MDict K w (upd H2 d (.frz od4 u4)) d (mI l) := ⟨fz4.rd, (KeysOk.same s2 hW.ks).via fun _ _ => sqT_heldU hu4 hmu4⟩
          refine lcKU (fun i H' => L2.Same (upd H2 d (.frz od4 u4)) H' ∧ H' B4 = some (.lst (((l.take i).map fun q => decide (e ≤ q.2)).map V.bl))) ?_ ?_ ?_ ?_
          · exact ⟨same_new hB4, upd_same⟩
          · exact fun i H' _ h => FzM.same h.1 fz4
          · rintro i p H' hi ⟨s3, hL⟩
            obtain ⟨z, xv, hl, rfl⟩ := mI_at hi
            have hlt : i < l.length := (List.getElem?_eq_some_iff.mp hl).1
            walk_at "go"
            refine ⟨rfl, ?_⟩
            walk_at "go"
            refine x_mget ?_
            walk_at "go"
            refine x_mgetQ (hm4.same s3) hW.nd hi ?_
            walk_at "go"
            refine ⟨_, hL, sz_lt (by simp; omega), same_upd s3 hB4, ?_⟩
            rw [upd_same, take_succ_get hl]
            simp
          · rintro H4 ⟨s3, hL⟩
            rw [mlen, List.take_length] at hL
            refine ⟨s3 d _ upd_same, ?_⟩
            have s4 := s2.trans (unlock_s hu4 s3)
            have hL : (upd H4 d u4) B4 = some (.lst ((l.map fun q => decide (e ≤ q.2)).map V.bl)) := by rw [upd_ne nB4]; exact hL
            generalize upd H4 d u4 = G4 at s4 hL
            walk_at "go"
            refine ⟨B4, _, rfl, SqL.of hL, ?_⟩
            have eb : (List.map (fun q : Str × Int => decide (e ≤ q.2)) l).all id = comingB l e := by rw [List.all_map]; rfl
            rw [eb]
            cases hc : comingB l e with
            | true =>
              walk_at "go"
              exact fin _ _ s4 ⟨fun _ => .inl fun p hp => of_decide_eq_true (List.all_eq_true.mp hc p hp), fun _ => rfl⟩
            | false =>
              walk_at "go"
              refine x_lockME (hW.wr.same s4) (fun od6 u6 hu6 hmu6 fz6 => ?_)
              refine x_iKU ?_
              walk_at "go"
              refine runKU fz6 ?_
              intro B6 hB6
              have nB6 : B6 ≠ d := fun z => by rw [z, upd_same] at hB6; cases hB6
              have hm6 : MDict K w (upd G4 d (.frz od6 u6)) d (mI l) := ⟨fz6.rd, (KeysOk.same s4 hW.ks).via fun _ _ => sqT_heldU hu6 hmu6⟩
              refine lcKU (fun i H' => L2.Same (upd G4 d (.frz od6 u6)) H' ∧ H' B6 = some (.lst (((l.take i).map fun q => decide (q.2 ≤ e)).map V.bl))) ?_ ?_ ?_ ?_
              · exact ⟨same_new hB6, upd_same⟩
              · exact fun i H' _ h => FzM.same h.1 fz6
              · rintro i p H' hi ⟨s3, hL⟩
                obtain ⟨z, xv, hl, rfl⟩ := mI_at hi
                have hlt : i < l.length := (List.getElem?_eq_some_iff.mp hl).1
                walk_at "go"
                refine ⟨rfl, ?_⟩
                walk_at "go"
                refine x_mget ?_
                walk_at "go"
                refine x_mgetQ (hm6.same s3) hW.nd hi ?_
                walk_at "go"
                refine ⟨_, hL, sz_lt (by simp; omega), same_upd s3 hB6, ?_⟩
                rw [upd_same, take_succ_get hl]
                simp
              · rintro H6 ⟨s3, hL⟩
                rw [mlen, List.take_length] at hL
                refine ⟨s3 d _ upd_same, ?_⟩
                have s6 := s4.trans (unlock_s hu6 s3)
                have hL : (upd H6 d u6) B6 = some (.lst ((l.map fun q => decide (q.2 ≤ e)).map V.bl)) := by rw [upd_ne nB6]; exact hL
                generalize upd H6 d u6 = G6 at s6 hL
                walk_at "go"
                refine ⟨B6, _, rfl, SqL.of hL, ?_⟩
                have eb2 : (List.map (fun q : Str × Int => decide (q.2 ≤ e)) l).all id = l.all fun q => decide (q.2 ≤ e) := by rw [List.all_map]; rfl
                rw [eb2]
                refine fin _ _ s6 ⟨fun h => .inr fun p hp => of_decide_eq_true (List.all_eq_true.mp h p hp), fun sd => ?_⟩
                rcases sd with h | h
                · have : comingB l e = true := List.all_eq_true.mpr fun q hq => decide_eq_true (h q hq)
                  rw [this] at hc
                  cases hc
                · exact List.all_eq_true.mpr fun q hq => decide_eq_true (h q hq)
end
/-! ### worths drawn -/
def wxS (k : Nat) : Str := Str.ofString "w" ++ Str.ofString (toString ((k : Nat) : Int)) ++ Str.ofString "x"
theorem wxS_name {k : Nat} (h : k < 1000) : NameS (wxS k) := by
  have e : (wxS k).cps.toList = 119 :: (TL.numL k ++ [120]) := by
    unfold wxS
    rw [tl_app, tl_app, show (Str.ofString (toString ((k : Nat) : Int))).cps.toList = TL.numL k from TL.tl_num k]
    rfl
  refine ⟨119, TL.numL k ++ [120], e, ⟨by decide, by decide⟩, ?_, fun c hc => ?_⟩
  · rw [List.length_append]
    have := TL.numL_len (k := 3) (by decide) (show k < 10 ^ 3 by simpa using h)
    have e2 : [120].length = 1 := rfl
    omega
  · rcases List.mem_append.mp hc with hc | hc
    · have := TL.numL_digits k c hc
      exact .inr ⟨this.1, this.2⟩
    · rw [List.mem_singleton.mp hc]
      exact .inl ⟨by decide, by decide⟩
def spDrawnW : Sp := fun vs H Q _ => ∃ (p : Addr), vs = [.ref p] ∧ PoolAt H p ∧ ∀ H' W l, But p H H' → PoolAt H' p → H W = none → W ≠ p → H' W = some (.dK (strK V.int l)) → (l.map (·.1)).Nodup → l.length ≤ 112 → (∀ q ∈ l, NameS q.1) → (∀ q ∈ l, -99 ≤ q.2 ∧ q.2 ≤ 99) → Q (.ref W) H'
section
variable {P : Program} {w : World} {K : PySem.W.Frag} {mg : Str → Option Value} {base : Heap}
theorem ok_l_drawn_worths {f : Addr} {fd : FuncData} (F : Fun K "_law_drawn_worths" "_law_drawn_worths" s_l_drawn_worths f fd) (Z_range : mg "range" = none) (Z_str : mg "str" = none) (C_draw : Cal P w K mg base 1 "_law_draw" ["_law_pool_here", "_law_many"] spDraw) (C_words : Cal P w K mg base 3 "_law_words" ["_law_pool_here", "_law_many"] spWords) : FnOk P w K mg base CX0 4 f fd ["_law_pool_here"] spDrawnW := by
  refine F.ok sc_l_drawn_worths (fun vs H Q E h => ?_) (fun cdv A outer s H vs Q E hr h => ?_)
  · obtain ⟨_, rfl, _⟩ := h
    rfl
  · obtain ⟨p, rfl, hp, q⟩ := h
    have hu := hu_of hr
    refine ⟨_, (pss_cons (ps_set (i := 1) sc_l_drawn_worths.nd rfl (Or.inl rfl) (pe_ix ix_list (pe_lst (pa_cons pe_int (pa_cons pe_int (pa_cons pe_int (pa_cons pe_int pa_nil))))) (pe_cal C_draw (hr.mono (by decide)) (by rfl) (pa_cons (pv 0) (pa_cons pe_int pa_nil))) (fun _ _ => rfl)))
      (pss_cons (ps_set (i := 2) sc_l_drawn_worths.nd rfl (Or.inl rfl) pe_dnewK)
      (pss_cons (ps_for PassesOwn.never rfl (pi_list (pe_cal C_words (hr.mono (by decide)) (by rfl) (pa_cons (pv 0) (pa_cons (pe_cal C_draw (hr.mono (by decide)) (by rfl) (pa_cons (pv 0) (pa_cons pe_int pa_nil))) pa_nil)))) (pg_name (i := 3) sc_l_drawn_worths.nd rfl (Or.inl rfl))
      (pss_one (ps_dput hu (pv 2) (pv 3) (pe_op op_sub (pe_cal C_draw (hr.mono (by decide)) (by rfl) (pa_cons (pv 0) (pa_cons (pe_op op_add (pe_op op_mulA pe_int (pv 1)) pe_int) pa_nil))) (pv 1)) rfl)))
      (pss_cons (ps_if (pt_cmpR op_eq (pe_cal C_draw (hr.mono (by decide)) (by rfl) (pa_cons (pv 0) (pa_cons pe_int pa_nil))) pe_int (nomark _))
      (pss_one (ps_for PassesOwn.never rfl (pi_range1 rfl Z_range (pa_cons (pe_op op_add pe_int (pe_cal C_draw (hr.mono (by decide)) (by rfl) (pa_cons (pv 0) (pa_cons pe_int pa_nil)))) pa_nil)) (pg_name (i := 4) sc_l_drawn_worths.nd rfl (Or.inl rfl))
      (pss_one (ps_dput hu (pv 2) (pe_op op_addSA (pe_op op_addSA pe_str (pe_callTy call_strIA (by rfl) Z_str (by decide +kernel) (pa_cons (pv 4) pa_nil))) pe_str) (pv 1) rfl))))
      pss_nil)
      (pss_one (ps_ret (pv 2))))))), ?_⟩
    walk_at "go"
    refine ⟨sz_le (by simp), fun R0 nR0 => ?_⟩
    have b0 : But p H (upd H R0 (.lst [V.int 1, V.int 3, V.int 9, V.int 99])) := But.of_same (same_new nR0)
    have t0 : (upd H R0 (.lst [V.int 1, V.int 3, V.int 9, V.int 99])) R0 = some (.lst [V.int 1, V.int 3, V.int 9, V.int 99]) := upd_same
    have p0 := hp.new (o := .lst [V.int 1, V.int 3, V.int 9, V.int 99]) nR0
    have nR0p : R0 ≠ p := hp.ne nR0
    generalize upd H R0 (.lst [V.int 1, V.int 3, V.int 9, V.int 99]) = H0 at b0 t0 p0
    walk_at "go"
    refine ⟨p, 4, rfl, p0, by decide, by decide, fun H1 r b1 p1 r0 r1 => ?_⟩
    obtain ⟨rc, hrc, rb1, rb2⟩ : ∃ rc : Int, ([V.int 1, V.int 3, V.int 9, V.int 99] : List V)[r.toNat]? = some (.int rc) ∧ 1 ≤ rc ∧ rc ≤ 99 := by
      have : r = 0 ∨ r = 1 ∨ r = 2 ∨ r = 3 := by omega
      rcases this with rfl | rfl | rfl | rfl
      · exact ⟨1, rfl, by decide, by decide⟩
      · exact ⟨3, rfl, by decide, by decide⟩
      · exact ⟨9, rfl, by decide, by decide⟩
      · exact ⟨99, rfl, by decide, by decide⟩
    refine x_ixl r.toNat (SqL.of (b1 _ _ t0 nR0p)) (by omega) hrc ?_
    walk_at "go"
    intro W nW
    have b01 := b0.trans b1
    have nWp : W ≠ p := p1.ne nW
    have nW0 : H W = none := by
      cases e : H W with
      | none => rfl
      | some o => rw [b01 _ _ e nWp] at nW; cases nW
    have b2 : But p H (upd H1 W (.dK [])) := b01.new nW
    have p2 := p1.new (o := .dK []) nW
    have hW2 : (upd H1 W (.dK [])) W = some (.dK (strK V.int [])) := upd_same
    generalize upd H1 W (.dK []) = H2 at b2 p2 hW2
    walk_at "go"
    refine ⟨p, 9, rfl, p2, by decide, by decide, fun H3 m b3 p3 m0 m1 => ?_⟩
    walk_at "go"
    refine ⟨p, m, rfl, p3, m0, by omega, fun H4 ql ws b4 p4 nql hql wl wn wd => ?_⟩
    have b04 : But p H H4 := b2.trans (b3.trans b4)
    have hW4 := (b3.trans b4) _ _ hW2 nWp
    have nqp : ql ≠ p := p3.ne nql
    have nqW : ql ≠ W := (ne_of_none (b3 _ _ hW2 nWp) nql).symm
    have keepW : ∀ {H' : Hp} {o : HO}, But p H H' → But p H (upd H' W o) := fun b x o e n => by
      rw [upd_ne (ne_of_none e nW0)]
      exact b x o e n
    have big : ∀ {z : Int}, z ≤ 1000 → z < 2 ^ 200 := fun h => Int.lt_of_le_of_lt h (by decide +kernel)
    refine lpL (xs := strsV ws) (fun i σ H' => ∃ (v3 : Option V) (l : List (Str × Int)), σ = [some (.ref p), some (.int rc), some (.ref W), v3, none] ∧ But p H H' ∧ PoolAt H' p ∧ H' ql = some (.lst (strsV ws)) ∧ H' W = some (.dK (strK V.int l)) ∧ (l.map (·.1)).Nodup ∧ l.length ≤ i ∧ (∀ q ∈ l, NameS q.1) ∧ ∀ q ∈ l, -99 ≤ q.2 ∧ q.2 ≤ 99) (SqL.of hql) ?_ ?_ ?_ ?_
    · exact ⟨_, [], rfl, b04, p4, hql, hW4, List.nodup_nil, Nat.le_refl _, fun q hq => (by cases hq), fun q hq => (by cases hq)⟩
    · exact fun i σ H' _ ⟨_, _, _, _, _, h, _⟩ => SqL.of h
    · rintro i y σ H' hy ⟨v3, l, rfl, b', p', hq', hW', nd, ll, nm, bd⟩
      rw [List.getElem?_map] at hy
      cases hz : ws[i]? with
      | none => rw [hz] at hy; cases hy
      | some z =>
        rw [hz] at hy
        have ex : V.str z = y := Option.some.inj hy
        subst ex
        have hil : i < ws.length := (List.getElem?_eq_some_iff.mp hz).1
        have nz := wn z (List.mem_of_getElem? hz)
        walk_at "go"
        refine ⟨p, 2 * rc + 1, rfl, p', by omega, big (by omega), fun H5 d b5 p5 d0 d1 => ?_⟩
        walk_at "go"
        refine x_putL (l := l) (f := V.int) (x := d - rc) (b5 _ _ hW' nWp) (by omega) rfl ?_
        walk_at "go"
        refine ⟨_, putL l z (d - rc), rfl, keepW (b'.trans b5), p5.upd (Ne.symm nWp), by rw [upd_ne nqW]; exact b5 _ _ hq' nqp, upd_same, putL_nd _ nd, Nat.le_trans (putL_len _ _ _) (by omega), fun q hq => ?_, fun q hq => ?_⟩
        · rcases putL_mem hq with rfl | ⟨hq, _⟩
          · exact nz
          · exact nm q hq
        · rcases putL_mem hq with rfl | ⟨hq, _⟩
          · exact ⟨by show -99 ≤ d - rc; omega, by show d - rc ≤ 99; omega⟩
          · exact bd q hq
    · rintro σ H' ⟨v3, l, rfl, b', p', hq', hW', nd, ll, nm, bd⟩
      rw [List.length_map] at ll
      have ll : l.length ≤ 8 := by omega
      walk_at "go"
      refine ⟨p, 8, rfl, p', by decide, by decide, fun H5 d b5 p5 d0 d1 => ?_⟩
      have hW5 := b5 _ _ hW' nWp
      walk_at "go"
      refine x_dec (fun h3 => ?_) (fun h3 => ?_)
      · walk_at "go"
        refine ⟨p, 3, rfl, p5, by decide, by decide, fun H6 c b6 p6 c0 c1 => ?_⟩
        walk_at "go"
        refine lpR (fun i σ H' => ∃ (v4 : Option V) (l : List (Str × Int)), σ = [some (.ref p), some (.int rc), some (.ref W), v3, v4] ∧ But p H H' ∧ PoolAt H' p ∧ H' W = some (.dK (strK V.int l)) ∧ (l.map (·.1)).Nodup ∧ l.length ≤ 8 + i ∧ (∀ q ∈ l, NameS q.1) ∧ ∀ q ∈ l, -99 ≤ q.2 ∧ q.2 ≤ 99) ⟨by omega, by omega⟩ ?_ ?_ ?_
        · exact ⟨_, l, rfl, b'.trans (b5.trans b6), p6, b6 _ _ hW5 nWp, nd, by omega, nm, bd⟩
        · rintro i σ H7 hi ⟨v4, l, rfl, b7, p7, hW7, nd, ll, nm, bd⟩
          have hi2 : i < 102 := by omega
          walk_at "go"
          refine x_strI (by have : ((i : Nat) : Int).natAbs = i := by omega
                            rw [this]; exact Nat.lt_of_le_of_lt (Nat.log2_le_self i) (by omega)) ?_
          walk_at "go"
          have hlen := (wxS_name (k := i) (by omega)).len
          unfold wxS at hlen
          rw [strLen_append, strLen_append] at hlen
          refine x_addS (sz_le (by omega)) ?_
          walk_at "go"
          refine x_addS (sz_le (by rw [strLen_append]; omega)) ?_
          walk_at "go"
          refine x_putL (l := l) (f := V.int) (x := rc) (z := wxS i) hW7 (by omega) rfl ?_
          walk_at "go"
          refine ⟨_, putL l (wxS i) rc, rfl, keepW b7, p7.upd (Ne.symm nWp), upd_same, putL_nd _ nd, Nat.le_trans (putL_len _ _ _) (by omega), fun q hq => ?_, fun q hq => ?_⟩
          · rcases putL_mem hq with rfl | ⟨hq, _⟩
            · exact wxS_name (by omega)
            · exact nm q hq
          · rcases putL_mem hq with rfl | ⟨hq, _⟩
            · exact ⟨by show -99 ≤ rc; omega, by show rc ≤ 99; omega⟩
            · exact bd q hq
        · rintro σ H7 ⟨v4, l, rfl, b7, p7, hW7, nd, ll, nm, bd⟩
          walk_at "go"
          exact q _ W l b7 p7 nW0 nWp hW7 nd (by omega) nm bd
      · walk_at "go"
        exact q _ W l (b'.trans b5) p5 nW0 nWp hW5 nd (by omega) nm bd
end
/-! ### a wish's parts spoiled -/
theorem OdX.ints {K : PySem.W.Frag} {w : World} {H : Hp} (i : Int) (h : (PyData.int i).showable = true) (h2 : (PyData.int i).shown.length ≤ 100) : OdX K w H (.int i) := ⟨⟨_, .int i, fun z e => by cases e⟩, ⟨_, .int i, h, Nat.zero_le _, h2⟩⟩
theorem ThY.ints {K : PySem.W.Frag} {w : World} {H : Hp} (i : Int) (h : (PyData.int i).showable = true) (h2 : (PyData.int i).shown.length ≤ 100) : ThY K w H (.int i) := ⟨OdX.ints i h h2, .inr ⟨_, .int i, Nat.zero_le _, _, .int i, rfl⟩, rfl, .inl ⟨_, .int i, by decide⟩⟩
/-- the worths: no dict, a dict with names, or an odd one; its own place hidden behind what it holds -/
inductive WX (K : PySem.W.Frag) (w : World) (n : Nat) (G : Hp) : V → List Addr → Prop where
  | other {x : V} {k : Kn} (h : Kd K G x k) (hk : k ≠ .dict) (sm : Sml w G 2 100 x) : WX K w n G x []
  | good {W : Addr} {m : List (Str × V)} (h : G W = some (.dK (vK m))) (nd : (m.map (·.1)).Nodup) (nm : ∀ q ∈ m, NameS q.1) (vs : ∀ q ∈ m, OdX K w (woL G [W]) q.2) (ln : m.length ≤ n) : WX K w n G (.ref W) [W]
  | odd {W : Addr} {kvs : MV} (h : G W = some (dM w W kvs)) (nd : (kvs.map (·.1)).Nodup) (mx : Mx K w (woL G [W]) kvs) (kf : ∀ q ∈ kvs, ∃ k, Fine K (woL G [W]) q.2.1 k) (bad : ∃ q ∈ kvs, nameV q.2.1 = false) (ln : kvs.length ≤ n) : WX K w n G (.ref W) [W]
theorem woL_mono {G G' : Hp} {hs : List Addr} (s : L2.Same G G') : L2.Same (woL G hs) (woL G' hs) := woL_to fun b o n e => ⟨n, s _ _ e⟩
theorem WX.same {K : PySem.W.Frag} {w : World} {n m : Nat} {G G' : Hp} {x : V} {ws : List Addr} (s : L2.Same G G') (hn : n ≤ m) (h : WX K w n G x ws) : WX K w m G' x ws := by
  cases h with
  | other h hk sm => exact .other (h.same s) hk (sm.same s)
  | good h nd nm vs ln => exact .good (s _ _ h) nd nm (fun q hq => (vs q hq).same (woL_mono s)) (Nat.le_trans ln hn)
  | odd h nd mx kf bad ln => exact .odd (s _ _ h) nd (mx.same (woL_mono s)) (fun q hq => (kf q hq).elim fun k f => ⟨k, fine_same (woL_mono s) f⟩) bad (Nat.le_trans ln hn)
theorem WX.held {K : PySem.W.Frag} {w : World} {n : Nat} {G : Hp} {x : V} {ws : List Addr} (h : WX K w n G x ws) : ∀ b ∈ ws, G b ≠ none := by
  intro b hb
  cases h with
  | other => cases hb
  | good h => rw [List.mem_singleton.mp hb, h]; simp
  | odd h => rw [List.mem_singleton.mp hb, h]; simp
theorem mS_keys (m : List (Str × V)) : (mS m).map (·.1) = m.map fun q => NestedKey.text q.1 := by unfold mS strK; rw [List.map_map, List.map_map]; rfl
theorem mS_nd {m : List (Str × V)} (nd : (m.map (·.1)).Nodup) : ((mS m).map (·.1)).Nodup := by
  rw [mS_keys, show m.map (fun q => NestedKey.text q.1) = (m.map (·.1)).map NestedKey.text by rw [List.map_map]; rfl]
  exact List.pairwise_map.mpr (nd.imp fun h e => h (by injection e))
/-- the dict among them -/
theorem WX.cases {K : PySem.W.Frag} {w : World} {n : Nat} {G : Hp} {x : V} {ws : List Addr} (h : WX K w n G x ws) : (∃ k, Kd K G x k ∧ k ≠ .dict) ∨ ∃ W kvs, x = .ref W ∧ ws = [W] ∧ MWr w G W kvs ∧ (kvs.map (·.1)).Nodup ∧ Mx K w (woL G [W]) kvs ∧ (∀ q ∈ kvs, ∃ k, Fine K (woL G [W]) q.2.1 k) ∧ kvs.length ≤ n ∧
    ((∃ m, kvs = mS m ∧ G W = some (.dK (vK m)) ∧ (m.map (·.1)).Nodup ∧ (∀ q ∈ m, NameS q.1) ∧ (∀ q ∈ m, OdX K w (woL G [W]) q.2)) ∨ (G W = some (dM w W kvs) ∧ ∃ q ∈ kvs, nameV q.2.1 = false)) := by
  cases h with
  | other h hk sm => exact .inl ⟨_, h, hk⟩
  | @good W m h nd nm vs ln => exact .inr ⟨W, mS m, rfl, rfl, .inr ⟨_, h, rfl⟩, mS_nd nd, Mx.dK nm vs, fun q hq => (by obtain ⟨y, hy, rfl⟩ := mS_mem hq; exact ⟨_, nam_fine (nm y hy)⟩), by rw [mS_len]; exact ln, .inl ⟨m, rfl, h, nd, nm, vs⟩⟩
  | @odd W kvs h nd mx kf bad ln => exact .inr ⟨W, kvs, rfl, rfl, .inl h, nd, mx, kf, ln, .inr ⟨h, bad⟩⟩
/-- the list [worths, endless] at PL, apart from the pool at p -/
structure Parts (K : PySem.W.Frag) (w : World) (H : Hp) (p PL : Addr) (n : Nat) (x e : V) (ws : List Addr) : Prop where
  ne : PL ≠ p
  at_ : H PL = some (.lst [x, e])
  wx : WX K w n (woL H [p, PL]) x ws
  oe : OdX K w (woL H (p :: PL :: ws)) e
theorem Parts.but {K : PySem.W.Frag} {w : World} {H H' : Hp} {p PL : Addr} {n : Nat} {x e : V} {ws : List Addr} (h : Parts K w H p PL n x e ws) (b : But p H H') : Parts K w H' p PL n x e ws :=
  ⟨h.ne, b _ _ h.at_ h.ne, h.wx.same (woL_to fun a o n e => ⟨n, b _ _ e fun z => n (by rw [z]; exact List.mem_cons_self)⟩) (Nat.le_refl _), h.oe.same (woL_to fun a o n e => ⟨n, b _ _ e fun z => n (by rw [z]; exact List.mem_cons_self)⟩)⟩
theorem Parts.le {K : PySem.W.Frag} {w : World} {H : Hp} {p PL : Addr} {n m : Nat} {x e : V} {ws : List Addr} (h : Parts K w H p PL n x e ws) (hn : n ≤ m) : Parts K w H p PL m x e ws := ⟨h.ne, h.at_, h.wx.same (fun _ _ e => e) hn, h.oe⟩
theorem put_has {β : Type} : ∀ {xs : List (NestedKey × β × β)} {k : NestedKey} {y v : β}, ∃ q ∈ putM xs k y v, q.1 = k
  | [], k, y, v => ⟨(k, y, v), List.mem_cons_self, rfl⟩
  | p :: r, k, y, v => by
    rw [putM]
    by_cases e : p.1 = k
    · rw [if_pos e]; exact ⟨_, List.mem_cons_self, e⟩
    · rw [if_neg e]
      obtain ⟨q, hq, h⟩ := put_has (xs := r) (k := k) (y := y) (v := v)
      exact ⟨q, List.mem_cons_of_mem _ hq, h⟩
theorem put_keeps {β : Type} : ∀ {xs : List (NestedKey × β × β)} {k : NestedKey} {y v : β} {q : NestedKey × β × β}, q ∈ xs → ∃ q' ∈ putM xs k y v, q'.2.1 = q.2.1
  | p :: r, k, y, v, q, h => by
    rw [putM]
    by_cases e : p.1 = k
    · rw [if_pos e]
      rcases List.mem_cons.mp h with rfl | h
      · exact ⟨_, List.mem_cons_self, rfl⟩
      · exact ⟨q, List.mem_cons_of_mem _ h, rfl⟩
    · rw [if_neg e]
      rcases List.mem_cons.mp h with rfl | h
      · exact ⟨_, List.mem_cons_self, rfl⟩
      · obtain ⟨q', hq, z⟩ := put_keeps (xs := r) (k := k) (y := y) (v := v) h
        exact ⟨q', List.mem_cons_of_mem _ hq, z⟩
theorem key_nn {K : PySem.W.Frag} {H H' : Hp} {k : NestedKey} {y y' : V} (h : KeyV K H k y) (h' : KeyV K H' k y') (n : nameV y = false) : nameV y' = false := by
  cases h' with
  | text x => cases h; exact n
  | non => rfl
  | bl b => rfl
  | int i => rfl
  | tup _ _ => rfl
theorem x_mdput {K : PySem.W.Frag} {w : World} {td ty tv : TE} {σ : L2.St} {H : Hp} {n : L2.St → Hp → Prop} {r : VK} {b c : L2.St → Hp → Prop} (h : tv σ H fun v H1 => td σ H1 fun x H2 => ty σ H2 fun y H3 => rDputA x y v H3 (fun H4 => n σ H4) ∨ rMputA K w x y v H3 fun H4 => n σ H4) : sMDPut K w td ty tv ⟨n, r, b, c⟩ σ H := h
def spSpoilW (K : PySem.W.Frag) (w : World) : Sp := fun vs H Q _ => ∃ (p PL : Addr) (n : Nat) (x e : V) (ws : List Addr), vs = [.ref p, .ref PL] ∧ PoolAt H p ∧ Parts K w H p PL n x e ws ∧ n ≤ 200 ∧ ∀ H' x' e' ws', PoolAt H' p → Parts K w H' p PL (n + 1) x' e' ws' → Q .non H'
section
variable {P : Program} {w : World} {K : PySem.W.Frag} {mg : Str → Option Value} {base : Heap}
theorem ok_l_spoil_wish {f : Addr} {fd : FuncData} (F : Fun K "_law_spoil_wish" "_law_spoil_wish" s_l_spoil_wish f fd) (Z_dict : mg "dict" = none) (Z_len : mg "len" = none) (Z_list : mg "list" = none) (Z_isinstance : mg "isinstance" = none) (C_draw : Cal P w K mg base 1 "_law_draw" ["_law_pool_here", "_law_many"] spDraw)
    (C_l_thing : Cal P w K mg base 2 "_law_thing" ["_law_pool_here"] (spThingY K w)) (C_l_key : Cal P w K mg base 1 "_law_key" ["_law_thing_here"] (spKeyL K w)) : FnOk P w K mg base CX0 3 f fd ["_law_pool_here", "_law_parts"] (spSpoilW K w) := by
  refine F.ok sc_l_spoil_wish (fun vs H Q E h => ?_) (fun cdv A outer s H vs Q E hr h => ?_)
  · obtain ⟨_, _, _, _, _, _, rfl, _⟩ := h
    rfl
  · obtain ⟨p, PL, n, x, e, ws, rfl, hp, hP, hn, q⟩ := h
    refine ⟨_, (pss_cons (ps_set (i := 2) sc_l_spoil_wish.nd rfl (Or.inl rfl) (pe_ix ix_list (pe_lst (pa_cons (pe_cal C_l_thing (hr.mono (by decide)) (by rfl) (pa_cons (pv 0) pa_nil)) (pa_cons pe_int (pa_cons pe_int (pa_cons (pe_un un_neg pe_int) (pa_cons (pe_un un_neg pe_int) pa_nil)))))) (pe_cal C_draw (hr.mono (by decide)) (by rfl) (pa_cons (pv 0) (pa_cons pe_int pa_nil))) (fun _ _ => rfl)))
      (pss_cons (ps_set (i := 3) sc_l_spoil_wish.nd rfl (Or.inl rfl) (pe_cal C_draw (hr.mono (by decide)) (by rfl) (pa_cons (pv 0) (pa_cons pe_int pa_nil))))
      (pss_cons (ps_set (i := 4) sc_l_spoil_wish.nd rfl (Or.inl rfl) (pe_ix ix_list (pv 1) pe_int (fun _ _ => rfl)))
      (pss_one (ps_if (pt_cmpR op_eq (pv 3) pe_int (nomark _))
      (pss_one (ps_asg (pv 2) (pg_sub (pv 1) pe_int set_list)))
      (pss_one (ps_if (pt_cmpR op_eq (pv 3) pe_int (nomark _))
      (pss_one (ps_asg (pv 2) (pg_sub (pv 1) pe_int set_list)))
      (pss_one (ps_if (PW.pt (pw_and (pt_val (pe_callB call_isiU (by rfl) Z_isinstance (by decide +kernel) (pa_cons (pv 4) (pa_cons (pe_bltn (v := .ty "dict") (by rfl) Z_dict (by decide +kernel) rfl) pa_nil)))) (pw_and1 (pt_cmpR op_eq (pv 3) pe_int (nomark _)))))
      (pss_one (ps_mdput (hu100 hr) (pv 4) (pe_cal C_l_key (hr.mono (by decide)) (by rfl) (pa_cons (pv 2) pa_nil)) pe_int rfl))
      (pss_one (ps_if (PW.pt (pw_and (pt_val (pe_callB call_isiU (by rfl) Z_isinstance (by decide +kernel) (pa_cons (pv 4) (pa_cons (pe_bltn (v := .ty "dict") (by rfl) Z_dict (by decide +kernel) rfl) pa_nil)))) (pw_and1 (pt_cmpR op_gt (pe_callB call_lenM (by rfl) Z_len (by decide +kernel) (pa_cons (pv 4) pa_nil)) pe_int (nomark _)))))
      (pss_cons (ps_set (i := 5) sc_l_spoil_wish.nd rfl (Or.inl rfl) (pe_callTy (call_list_dM rfl) (by rfl) Z_list (by decide +kernel) (pa_cons (pv 4) pa_nil)))
      (pss_one (ps_mdput (hu100 hr) (pv 4) (pe_ix ix_list (pv 5) (pe_cal C_draw (hr.mono (by decide)) (by rfl) (pa_cons (pv 0) (pa_cons (pe_callB call_lenA (by rfl) Z_len (by decide +kernel) (pa_cons (pv 5) pa_nil)) pa_nil))) (fun _ _ => rfl)) (pv 2) rfl)))
      pss_nil))))))))))), ?_⟩
    walk_at "go"
    refine ⟨p, rfl, hp, fun H1 tx b1 p1 hx => ?_⟩
    walk_at "go"
    refine ⟨sz_le (by simp), fun R nR => ?_⟩
    have s2 : L2.Same H1 (upd H1 R (.lst [tx, V.int 99, V.int 100, V.int (-99), V.int (-100)])) := same_new nR
    have t2 : (upd H1 R (.lst [tx, V.int 99, V.int 100, V.int (-99), V.int (-100)])) R = some (.lst [tx, V.int 99, V.int 100, V.int (-99), V.int (-100)]) := upd_same
    have p2 := p1.new (o := .lst [tx, V.int 99, V.int 100, V.int (-99), V.int (-100)]) nR
    have nRp : R ≠ p := p1.ne nR
    generalize upd H1 R (.lst [tx, V.int 99, V.int 100, V.int (-99), V.int (-100)]) = H2 at s2 t2 p2
    have all_ : ∀ y ∈ ([tx, V.int 99, V.int 100, V.int (-99), V.int (-100)] : List V), ThY K w (nw H H1) y := by
      intro y hy
      simp only [List.mem_cons, List.not_mem_nil, or_false] at hy
      rcases hy with rfl | rfl | rfl | rfl | rfl
      · exact hx
      all_goals exact ThY.ints _ (by decide +kernel) (by decide +kernel)
    walk_at "go"
    refine ⟨p, 5, rfl, p2, by decide, by decide, fun H3 j b3 p3 j0 j1 => ?_⟩
    have t3 := b3 _ _ t2 nRp
    generalize hLL : ([tx, V.int 99, V.int 100, V.int (-99), V.int (-100)] : List V) = LL at t2 t3 all_
    obtain ⟨t, g1, g2⟩ := pick1 LL j0 (by rw [← hLL]; exact j1)
    have ht := all_ t g2
    refine x_ixl j.toNat (SqL.of t3) (by omega) g1 ?_
    walk_at "go"
    refine ⟨p, 5, rfl, p3, by decide, by decide, fun H4 kd b4 p4 k0 k1 => ?_⟩
    have b14 : But p H1 H4 := ((But.of_same s2).trans b3).trans b4
    have b04 : But p H H4 := b1.trans b14
    -- the new things, as they stand now
    have nwS : ∀ {hs : List Addr}, (∀ b ∈ hs, H b ≠ none) → L2.Same (nw H H1) (woL H4 hs) := fun {hs} hh b o e => by
      obtain ⟨e1, e2⟩ := nw_some e
      rw [woL_at (fun z => hh b z e1)]
      exact b14 _ _ e2 fun z => pool_some hp (by rw [← z]; exact e1)
    have hP4 := hP.but b04
    have hPL0 : H PL ≠ none := by rw [hP.at_]; simp
    have hws0 : ∀ b ∈ ws, H b ≠ none := fun b hb z => hP.wx.held b hb (by
      cases e : woL H [p, PL] b with
      | none => rfl
      | some o => rw [(woL_some e).2] at z; cases z)
    walk_at "go"
    refine x_ixl 0 (SqL.of hP4.at_) rfl rfl ?_
    walk_at "go"
    refine x_dec (fun hk0 => ?_) (fun hk0 => ?_)
    · walk_at "go"
      refine x_setl (j := 1) hP4.at_ rfl (by simp) ?_
      walk_at "go"
      refine q _ x t ws (p4.upd (Ne.symm hP.ne)) ⟨hP.ne, upd_same, hP4.wx.same (woL_to fun b o nb e => ⟨nb, by rw [upd_ne (fun z => nb (by rw [z]; simp))]; exact e⟩) (Nat.le_succ _), ?_⟩
      refine ht.od.same ((nwS (hs := p :: PL :: ws) fun b hb => ?_).trans (woL_to fun b o nb e => ⟨nb, by rw [upd_ne (fun z => nb (by rw [z]; simp))]; exact e⟩))
      rcases List.mem_cons.mp hb with rfl | hb
      · exact pool_some hp
      · rcases List.mem_cons.mp hb with rfl | hb
        · exact hPL0
        · exact hws0 b hb
    · walk_at "go"
      refine x_dec (fun hk1 => ?_) (fun hk1 => ?_)
      · walk_at "go"
        refine x_setl (j := 0) hP4.at_ rfl (by simp) ?_
        walk_at "go"
        have sG : L2.Same (nw H H1) (woL (upd H4 PL (.lst [t, e])) [p, PL]) := (nwS (hs := [p, PL]) fun b hb => by
          rcases List.mem_cons.mp hb with rfl | hb
          · exact pool_some hp
          · rw [List.mem_singleton.mp hb]; exact hPL0).trans (woL_to fun b o nb e => ⟨nb, by rw [upd_ne (fun z => nb (by rw [z]; simp))]; exact e⟩)
        have sE : ∀ {hs : List Addr}, (∀ b ∈ hs, H b = none) → L2.Same (woL H (p :: PL :: ws)) (woL (upd H4 PL (.lst [t, e])) (p :: PL :: hs)) := fun {hs} hh => woL_to fun b o nb e => by
          have n1 : b ≠ p := fun z => nb (by rw [z]; simp)
          have n2 : b ≠ PL := fun z => nb (by rw [z]; simp)
          refine ⟨fun z => ?_, by rw [upd_ne n2]; exact b04 _ _ e n1⟩
          rcases List.mem_cons.mp z with z | z
          · exact n1 z
          · rcases List.mem_cons.mp z with z | z
            · exact n2 z
            · rw [hh b z] at e; cases e
        rcases ht.dc with ⟨k, hk, hkd⟩ | ⟨a, m, rfl, ha, hm⟩
        · exact q _ t e [] (p4.upd (Ne.symm hP.ne)) ⟨hP.ne, upd_same, .other (hk.same sG) hkd (ht.od.sm.same sG), hP.oe.same (sE fun b hb => by cases hb)⟩
        · refine q _ (.ref a) e [a] (p4.upd (Ne.symm hP.ne)) ⟨hP.ne, upd_same, .good (m := m) (sG _ _ ha) ?_ ?_ ?_ ?_, hP.oe.same (sE fun b hb => by rw [List.mem_singleton.mp hb]; exact (nw_some ha).1)⟩
          all_goals rcases hm with rfl | rfl
          · exact List.nodup_nil
          · simp
          · intro q hq; cases hq
          · intro q hq
            rw [List.mem_singleton.mp hq]
            exact nameL_iff.mp (by decide +kernel)
          · intro q hq; cases hq
          · intro q hq
            rw [List.mem_singleton.mp hq]
            exact OdX.ints 1 (by decide +kernel) (by decide +kernel)
          · exact Nat.zero_le _
          · exact Nat.succ_le_succ (Nat.zero_le _)
      · walk_at "go"
        rcases hP4.wx.cases with ⟨k, hk, hkd⟩ | ⟨W, kvs, rfl, rfl, wr, nd, mx, kf, ln, gd⟩
        · have hk := hk.same woL_same
          refine x_isiO (x_isiDict hk ?_)
          rw [not_dict hkd]
          walk_at "go"
          refine x_isiO (x_isiDict hk ?_)
          rw [not_dict hkd]
          walk_at "go"
          exact q _ x e ws p4 (hP4.le (Nat.le_succ _))
        · have hWn : W ∉ [p, PL] := fun z => by
            rcases wr with h | ⟨ks, h, _⟩
            · exact (woL_some h).1 z
            · exact (woL_some h).1 z
          have nWp : W ≠ p := fun z => hWn (by rw [z]; simp)
          have nWL : W ≠ PL := fun z => hWn (by rw [z]; simp)
          have wr4 : MWr w H4 W kvs := wr.same woL_same
          have hW0 : H W ≠ none := hws0 W List.mem_cons_self
          have ks4 : KeysOk K H4 kvs := KeysOk.same (woL_same.trans woL_same) mx.ks
          -- all that is told, behind a change of the dict
          have out : ∀ {H5 : Hp} {o : HO}, But p H4 H5 → L2.Same (woL (woL H4 [p, PL]) [W]) (woL (woL (upd H5 W o) [p, PL]) [W]) := fun {H5 o} b5 => woL_to fun b x nb e => by
            obtain ⟨n1, e1⟩ := woL_some e
            refine ⟨nb, ?_⟩
            rw [woL_at n1, upd_ne (fun z => nb (by rw [z]; simp))]
            exact b5 _ _ e1 fun z => n1 (by rw [z]; simp)
          have outE : ∀ {H5 : Hp} {o : HO}, But p H4 H5 → L2.Same (woL H4 [p, PL, W]) (woL (upd H5 W o) [p, PL, W]) := fun {H5 o} b5 => woL_to fun b x nb e => ⟨nb, by
            rw [upd_ne (fun z => nb (by rw [z]; simp))]
            exact b5 _ _ e fun z => nb (by rw [z]; simp)⟩
          have outN : ∀ {H5 : Hp} {o : HO}, But p H4 H5 → L2.Same (nw H H1) (woL (woL (upd H5 W o) [p, PL]) [W]) := fun {H5 o} b5 b x e1 => by
            obtain ⟨e2, e3⟩ := nw_some e1
            have n1 : b ≠ p := fun z => pool_some hp (by rw [← z]; exact e2)
            have n2 : b ≠ PL := fun z => hPL0 (by rw [← z]; exact e2)
            have n3 : b ≠ W := fun z => hW0 (by rw [← z]; exact e2)
            rw [woL_at (by simpa using n3), woL_at (by simp; exact ⟨n1, n2⟩), upd_ne n3]
            exact b5 _ _ (b14 _ _ e3 n1) n1
          have done : ∀ {H5 : Hp} {o : HO}, But p H4 H5 → PoolAt H5 p → WX K w (n + 1) (woL (upd H5 W o) [p, PL]) (.ref W) [W] → Q .non (upd H5 W o) := fun {H5 o} b5 p5 wx => q _ (.ref W) e [W] (p5.upd (Ne.symm nWp)) ⟨hP.ne, by rw [upd_ne (Ne.symm nWL)]; exact b5 _ _ hP4.at_ hP.ne, wx, hP4.oe.same (outE b5)⟩
          have atW : ∀ {H5 : Hp} {o : HO}, (woL (upd H5 W o) [p, PL]) W = some o := fun {H5 o} => by rw [woL_at hWn]; exact upd_same
          refine x_isiMd wr4.rd ?_
          walk_at "go"
          refine x_dec (fun hk2 => ?_) (fun hk2 => ?_)
          · walk_at "go"
            refine x_mdput ?_
            walk_at "go"
            refine ⟨t, nw H H1, rfl, ht, fun b o e1 => by
              obtain ⟨e2, e3⟩ := nw_some e1
              exact b14 _ _ e3 fun z => pool_some hp (by rw [← z]; exact e2), fun H5 y nk s5 hy hyd oy ny => ?_⟩
            have b5 : But p H4 H5 := But.of_same s5
            refine .inr ⟨W, kvs, nk, rfl, wr4.same s5, KeysOk.same s5 ks4, ?_, hyd, sz_lt (by omega), ?_⟩
            · exact KeyV.same (fun b o e1 => by
                obtain ⟨e2, e3⟩ := nw_some e1
                exact s5 _ _ (b14 _ _ e3 fun z => pool_some hp (by rw [← z]; exact e2))) hy
            · walk_at "go"
              refine done b5 (p4.same s5) (.odd atW (put_nodup nd) ((mx.same (out b5)).put (KeyV.same (outN b5) hy) hyd (oy.sm.same (outN b5)) (OdX.ints 1 (by decide +kernel) (by decide +kernel))) (fun q hq => ?_) ?_ (Nat.le_trans put_len (by omega)))
              · rcases put_mem2 hq with ⟨z, hz, e1, e2, _⟩ | rfl
                · obtain ⟨k, f⟩ := kf z hz
                  exact ⟨k, by rw [← e2]; exact fine_same (out b5) f⟩
                · obtain ⟨k, f⟩ := oy.fi
                  exact ⟨k, fine_same (outN b5) f⟩
              · obtain ⟨z, hz, ez⟩ := put_has (xs := kvs) (k := nk) (y := y) (v := V.int 1)
                refine ⟨z, hz, ?_⟩
                have hkz := (((mx.same (out (o := dM w W (putM kvs nk y (.int 1))) b5)).put (KeyV.same (outN b5) hy) hyd (oy.sm.same (outN b5)) (OdX.ints 1 (by decide +kernel) (by decide +kernel))).ks z hz).1
                rw [ez] at hkz
                exact key_nn hy hkz ny
          · walk_at "go"
            refine x_isiMd wr4.rd ?_
            walk_at "go"
            refine x_lenM wr4.rd ?_
            walk_at "go"
            refine x_dec (fun hl0 => ?_) (fun hl0 => ?_)
            · walk_at "go"
              refine ⟨W, kvs, rfl, wr4.rd, fun L nL => ?_⟩
              have s5 : L2.Same H4 (upd H4 L (.lst (kvs.map (·.2.1)))) := same_new nL
              have t5 : (upd H4 L (.lst (kvs.map (·.2.1)))) L = some (.lst (kvs.map (·.2.1))) := upd_same
              have p5 := p4.new (o := .lst (kvs.map (·.2.1))) nL
              have nLp : L ≠ p := p4.ne nL
              generalize upd H4 L (.lst (kvs.map (·.2.1))) = H5 at s5 t5 p5
              refine x_mdput ?_
              walk_at "go"
              refine ⟨p, (((kvs.map (·.2.1)).length : Nat) : Int), rfl, p5, by rw [List.length_map]; omega, Int.lt_of_le_of_lt (show _ ≤ (1000 : Int) by rw [List.length_map]; omega) (by decide +kernel), fun H6 d b6 p6 d0 d1 => ?_⟩
              rw [List.length_map] at d1
              obtain ⟨q0, hq0⟩ : ∃ q0, kvs[d.toNat]? = some q0 := ⟨_, List.getElem?_eq_getElem (by omega)⟩
              have hq0m := List.mem_of_getElem? hq0
              refine x_ixl d.toNat (SqL.of (b6 _ _ t5 nLp)) (by omega) (show (kvs.map (·.2.1))[d.toNat]? = some q0.2.1 by rw [List.getElem?_map, hq0]; rfl) ?_
              have b46 : But p H4 H6 := (But.of_same s5).trans b6
              rcases gd with ⟨m, rfl, hG, mnd, mnm, mvs⟩ | ⟨hG, bad⟩
              · obtain ⟨y, hy, rfl⟩ := mS_mem hq0m
                refine .inl (x_putL (l := m) (f := fun v => v) (x := t) (b46 _ _ (woL_same _ _ hG) nWp) (by rw [mS_len] at ln; omega) rfl ?_)
                walk_at "go"
                refine done b46 p6 (.good (m := putL m y.1 t) atW (putL_nd _ mnd) (fun q hq => ?_) (fun q hq => ?_) (Nat.le_trans (putL_len _ _ _) (by rw [mS_len] at ln; omega)))
                · rcases putL_mem hq with rfl | ⟨hq, _⟩
                  · exact mnm y hy
                  · exact mnm q hq
                · rcases putL_mem hq with rfl | ⟨hq, _⟩
                  · exact ht.od.same (outN b46)
                  · exact (mvs q hq).same (out b46)
              · have h6 : H6 W = some (dM w W kvs) := b46 _ _ (woL_same _ _ hG) nWp
                refine .inr ⟨W, kvs, q0.1, rfl, .inl h6, KeysOk.same ((woL_same (hs := [W])).trans (woL_in (hs := [p, PL]) fun b o nb e1 => b46 _ _ e1 fun z => nb (by rw [z]; simp))) mx.ks, KeyV.same ((woL_same (hs := [W])).trans (woL_in (hs := [p, PL]) fun b o nb e1 => b46 _ _ e1 fun z => nb (by rw [z]; simp))) (mx.ks q0 hq0m).1, (mx.ks q0 hq0m).2, sz_lt (by omega), ?_⟩
                walk_at "go"
                have mx2 := mx.same (out (o := dM w W (putM kvs q0.1 q0.2.1 t)) b46)
                refine done b46 p6 (.odd atW (put_nodup nd) (mx2.put (mx2.ks q0 hq0m).1 (mx2.ks q0 hq0m).2 (mx2.ks_ q0 hq0m) (ht.od.same (outN b46))) (fun q hq => ?_) ?_ (Nat.le_trans put_len (by omega)))
                · rcases put_mem2 hq with ⟨z, hz, e1, e2, _⟩ | rfl
                  · obtain ⟨k, f⟩ := kf z hz
                    exact ⟨k, by rw [← e2]; exact fine_same (out b46) f⟩
                  · obtain ⟨k, f⟩ := kf q0 hq0m
                    exact ⟨k, fine_same (out b46) f⟩
                · obtain ⟨z, hz, ez⟩ := bad
                  obtain ⟨z', hz', e2⟩ := put_keeps (k := q0.1) (y := q0.2.1) (v := t) hz
                  exact ⟨z', hz', by rw [e2]; exact ez⟩
            · walk_at "go"
              exact q _ (.ref W) e [W] p4 (hP4.le (Nat.le_succ _))
end
/-! ### k07: the law -/
def spLaw (K : PySem.W.Frag) : Sp := fun vs H Q _ => ∃ (a : Addr) (ns : List Int), vs = [.ref a] ∧ SqL K H a (intsV ns) ∧ ns.length ≤ 63 ∧ ∀ H', Q (.bl true) H'
theorem WX.ww {K : PySem.W.Frag} {w : World} {n : Nat} {G H : Hp} {x : V} {ws : List Addr} (h : WX K w n G x ws) (s : L2.Same G H) (hn : n ≤ 200) : ∃ o, WW K w H x o := by
  rcases h.cases with ⟨k, hk, hkd⟩ | ⟨W, kvs, rfl, rfl, wr, nd, mx, kf, ln, gd⟩
  · exact ⟨none, .inl ⟨rfl, k, hk.same s, hkd⟩⟩
  · have sw : L2.Same (woL G [W]) H := woL_same.trans s
    refine ⟨some kvs, .inr ⟨W, kvs, rfl, rfl, ⟨wr.same s, KeysOk.same sw mx.ks, fun q hq => (kf q hq).elim fun k f => ⟨k, fine_same sw f⟩, fun q hq => (mx.vs q hq).fi.elim fun k f => ⟨k, f.1.same sw⟩, by omega, nd, ?_⟩⟩⟩
    rcases gd with ⟨m, e, h, nd, nm, _⟩ | ⟨_, b⟩
    · exact .inl ⟨m, e, s _ _ h, nd, nm⟩
    · exact .inr b
theorem WX.sml {K : PySem.W.Frag} {w : World} {n : Nat} {G H : Hp} {x : V} {ws : List Addr} (h : WX K w n G x ws) (s : L2.Same G H) (hn : n ≤ 200) : Sml w H 3 41000 x := by
  cases h with
  | other h hk sm => exact (sm.same s).mono (by decide) (by decide)
  | @good W m h nd nm vs ln =>
    refine (sml_dict (n := 2) (B := 100) (.inr ⟨vK m, .inl (s _ _ h), rfl⟩) fun p hp => ?_).mono (by decide) (by rw [List.length_map, List.length_map]; omega)
    obtain ⟨q, hq, rfl⟩ := mS_mem hp
    exact ⟨(nam_sml (nm q hq)).mono (by decide) (by decide), (vs q hq).sm.same (woL_same.trans s)⟩
  | @odd W kvs h nd mx kf bad ln =>
    exact (sml_dict (n := 2) (B := 100) (.inl (.inl (s _ _ h))) fun p hp => ⟨(mx.ks_ p hp).same (woL_same.trans s), (mx.vs p hp).sm.same (woL_same.trans s)⟩).mono (by decide) (by omega)
theorem ints_all : ((List.range 199).all fun n => (PyData.int ((n : Int) - 99)).showable && decide ((PyData.int ((n : Int) - 99)).shown.length ≤ 100)) = true := by decide +kernel
theorem ints_sml {K : PySem.W.Frag} {w : World} {H : Hp} (i : Int) (h1 : -99 ≤ i) (h2 : i ≤ 99) : OdX K w H (.int i) := by
  have h := List.all_eq_true.mp ints_all (i + 99).toNat (List.mem_range.mpr (by omega))
  rw [show (((i + 99).toNat : Nat) : Int) - 99 = i by omega, Bool.and_eq_true] at h
  exact OdX.ints i h.1 (of_decide_eq_true h.2)
theorem x_sEnd7 {D : Ends} {σ : L2.St} {H : Hp} {i : Nat} (q : D.nx (σ.set i none) H) : (sEnds i D).nx σ H := q
section
variable {P : Program} {w : World} {K : PySem.W.Frag} {mg : Str → Option Value} {base : Heap} {C CBW CO : Addr}
set_option maxHeartbeats 40000000 in
theorem ok_law {f : Addr} {fd : FuncData} (F : Fun K "law" "law" s_law f fd) (Z_range : mg "range" = none) (Z_dict : mg "dict" = none) (Z_all : mg "all" = none) (Z_bool : mg "bool" = none) (Z_isinstance : mg "isinstance" = none) (Z_repr : mg "repr" = none) (Z_ValueError : mg "ValueError" = none) (Z_sys : (K.lookup sysModules).isSome = true)
    (G_BadWish : mg "BadWish" = some (.ref CBW)) (G_OwnError : mg "OwnError" = some (.ref CO)) (I_BadWish : ExcC K CBW)
    (e1 : PySem.W.exmOne K (.ref CBW) (.ref CBW) = some true) (e2 : PySem.W.kitOne K (.ref CBW) (.ref CO) = some true) (e3 : PySem.W.kitOne K (.ref CBW) (.type "ValueError") = some true)
    (K_Wish : Cls K C) (N2 : NoAttr K C "endless") (N3 : NoAttr K C "coming") (P_Wish_worths : Prp P w K mg base C 1 "worths" (spWorths C))
    (C_pool : Cal P w K mg base 1 "_law_pool" ["_law_script"] (spPool K)) (C_draw : Cal P w K mg base 1 "_law_draw" ["_law_pool_here", "_law_many"] spDraw) (C_l_drawn_worths : Cal P w K mg base 4 "_law_drawn_worths" ["_law_pool_here"] spDrawnW) (C_endless : Cal P w K mg base 2 "_law_endless" ["_law_pool_here", "_law_wanted"] spEndless)
    (C_l_spoil_wish : Cal P w K mg base 3 "_law_spoil_wish" ["_law_pool_here", "_law_parts"] (spSpoilW K w)) (MX_Wish : MkcX P w K mg base C 4 "Wish" ["self", "worths", "endless"] (spWishX K w C CBW)) (C_l_is_good : Cal P w K mg base 3 "_law_is_good" ["_law_worths", "_law_endless_here"] (spGoodL K w)) : FnL P w K mg base f fd ["_law_script"] (spLaw K) := by
  refine Fun.okL (k := 8) ⟨rfl, by decide, by decide⟩ F sc_law (fun vs H Q E h => ?_) (fun cdv s H vs Q hr h => ?_)
  · obtain ⟨_, _, rfl, _⟩ := h
    rfl
  · obtain ⟨sa, sc, rfl, hS, hlen, k⟩ := h
    have hu := hu_of hr
    refine ⟨_, (pss_cons (ps_set (i := 1) sc_law.nd rfl (Or.inl rfl) (pe_cal C_pool (hr.mono (by decide)) (by rfl) (pa_cons (pv 0) pa_nil)))
      (pss_cons (ps_set (i := 2) sc_law.nd rfl (Or.inl rfl) (pe_ix ix_list (pe_lst (pa_cons pe_int (pa_cons pe_int (pa_cons pe_int (pa_cons pe_int pa_nil))))) (pe_cal C_draw (hr.mono (by decide)) (by rfl) (pa_cons (pv 1) (pa_cons pe_int pa_nil))) (fun _ _ => rfl)))
      (pss_cons (ps_set (i := 3) sc_law.nd rfl (Or.inl rfl) (pe_cal C_l_drawn_worths (hr.mono (by decide)) (by rfl) (pa_cons (pv 1) pa_nil)))
      (pss_cons (ps_set (i := 4) sc_law.nd rfl (Or.inr rfl) (pe_lst (pa_cons (pv 3) (pa_cons (pe_cal C_endless (hr.mono (by decide)) (by rfl) (pa_cons (pv 1) (pa_cons (pv 3) pa_nil))) pa_nil))))
      (pss_cons (ps_if (pt_cmpR op_eq (pe_cal C_draw (hr.mono (by decide)) (by rfl) (pa_cons (pv 1) (pa_cons pe_int pa_nil))) pe_int (nomark _))
      (pss_one (ps_asg (pe_op op_sub (pe_cal C_draw (hr.mono (by decide)) (by rfl) (pa_cons (pv 1) (pa_cons pe_int pa_nil))) pe_int) (pg_sub (pv 4) pe_int set_list)))
      pss_nil)
      (pss_cons (ps_for PassesOwn.never rfl (pi_range1 rfl Z_range (pa_cons (pv 2) pa_nil)) (pg_name (i := 5) sc_law.nd rfl (Or.inl rfl))
      (pss_one (ps_expr (pe_cal C_l_spoil_wish (hr.mono (by decide)) (by rfl) (pa_cons (pv 1) (pa_cons (pv 4) pa_nil))))))
      (pss_cons (ps_set (i := 6) sc_law.nd rfl (Or.inl rfl) (pe_callB (call_reprU rfl (hu100 hr) Z_sys) (by rfl) Z_repr (by decide +kernel) (pa_cons (pv 4) pa_nil)))
      (pss_cons (ps_set (i := 7) sc_law.nd rfl (Or.inl rfl) pe_non)
      (pss_cons (ps_set (i := 8) sc_law.nd rfl (Or.inl rfl) pe_non)
      (pss_cons (ps_tryAs (i := 9) sc_law.nd rfl rfl rfl rfl (by rfl) G_BadWish takesN
      (fun W pn xe tk hp => psEq (pss_one (ps_set (i := 7) sc_law.nd rfl (Or.inl rfl) (pe_mkX MX_Wish (hr.mono (by decide)) (by rfl) tk (pa_cons (pe_ix (ix_listK (K := K)) (pv 4) pe_int (fun _ _ => rfl)) (pa_cons (pe_ix (ix_listK (K := K)) (pv 4) pe_int (fun _ _ => rfl)) pa_nil))))))
      (fun a oe cls d pn hz hf => psEq (pss_one (ps_set (i := 8) sc_law.nd rfl (Or.inl rfl) (pe_and (pe_callB (call_isX hz hf) (by rfl) Z_isinstance (by decide +kernel) (pa_cons (pv 9) (pa_cons (pe_glob (v := .ref _) (by rfl) G_OwnError rfl) pa_nil))) (pe_one (pe_callB (call_isX hz hf) (by rfl) Z_isinstance (by decide +kernel) (pa_cons (pv 9) (pa_cons (pe_bltn (v := .ty "ValueError") (by rfl) Z_ValueError (by decide +kernel) rfl) pa_nil)))))))))
      (pss_cons (ps_if (pt_cmpR op_ne (pe_callB (call_reprU rfl (hu100 hr) Z_sys) (by rfl) Z_repr (by decide +kernel) (pa_cons (pv 4) pa_nil)) (pv 6) (nomark _))
      (pss_one (ps_ret pe_bl))
      pss_nil)
      (pss_cons (ps_if (pt_not (pt_val (pe_cal C_l_is_good (hr.mono (by decide)) (by rfl) (pa_cons (pe_ix ix_list (pv 4) pe_int (fun _ _ => rfl)) (pa_cons (pe_ix ix_list (pv 4) pe_int (fun _ _ => rfl)) pa_nil)))))
      (pss_one (ps_ret (pe_and (pe_cmpR op_notNA (pv 8) pe_non (nomark _)) (pe_one (pv 8)))))
      pss_nil)
      (pss_cons (ps_if (PW.pt (pw_or (pt_cmpR op_isNA (pv 7) pe_non (nomark _)) (pw_or (pt_not (pt_val (pe_callB call_isi (by rfl) Z_isinstance (by decide +kernel) (pa_cons (pe_fld (pv 7) rfl) (pa_cons (pe_bltn (v := .ty "bool") (by rfl) Z_bool (by decide +kernel) rfl) pa_nil))))) (pw_or1 (pt_cmpR op_ne (pe_fld (pv 7) rfl) (pe_ix ix_list (pv 4) pe_int (fun _ _ => rfl)) (nomark _))))))
      (pss_one (ps_ret pe_bl))
      pss_nil)
      (pss_cons (ps_if (pt_cmpR op_ne (pe_fld (pv 7) rfl) (pe_callB (cr_all rfl) (by rfl) Z_all (by decide +kernel) (pa_cons (pe_lock (pe_lc (own := [("_law_name", 11)]) (g := gName 11) (tt := tYes) (by rfl) sc_law.nd (pi_keys (pe_ix ix_list (pv 4) pe_int (fun _ _ => rfl))) (blkOk_by (own := [("_law_name", 11)]) (N := N_law) (sc := defScope s_law) (by decide +kernel)) (fun _ _ _ _ _ => (pg_name (i := 11) sc_law.nd rfl (Or.inl rfl))) (fun _ _ _ _ _ => pts_nil) (fun _ _ _ _ _ => by exact (pe_cmpR op_le (pe_ix (ix_listK (K := K)) (pv 4) pe_int (fun _ _ => rfl)) (pe_dget hu (pe_ix (ix_listK (K := K)) (pv 4) pe_int (fun _ _ => rfl)) (pv 11) (fun _ _ => rfl)) (nomark _))))) pa_nil)) (nomark _))
      (pss_one (ps_ret pe_bl))
      pss_nil)
      (pss_cons (ps_set (i := 10) sc_law.nd rfl (Or.inl rfl) (pe_prp P_Wish_worths K_Wish (hr.mono (by decide)) (pv 7)))
      (pss_cons (ps_if (PW.pt (pw_or (pt_not (pt_val (pe_callB call_isi (by rfl) Z_isinstance (by decide +kernel) (pa_cons (pv 10) (pa_cons (pe_bltn (v := .ty "dict") (by rfl) Z_dict (by decide +kernel) rfl) pa_nil))))) (pw_or1 (pt_cmpR (op_ne_dictA hr.units0) (pv 10) (pe_ix ix_list (pv 4) pe_int (fun _ _ => rfl)) (nomark _)))))
      (pss_one (ps_ret pe_bl))
      pss_nil)
      (pss_cons (ps_dput hu (pv 10) pe_str pe_int rfl)
      (pss_one (ps_ret (pe_cmpR (op_eq_dictA hr.units0) (pe_prp P_Wish_worths K_Wish (hr.mono (by decide)) (pv 7)) (pe_ix ix_list (pv 4) pe_int (fun _ _ => rfl)) (nomark _))))))))))))))))))))), ?_⟩
    walk_at "go"
    refine ⟨sa, sc, rfl, hS, hlen, fun H1 p s1 hp0 p1 => ?_⟩
    walk_at "go"
    refine ⟨sz_le (by simp), fun R nR => ?_⟩
    have t2 : (upd H1 R (.lst [V.int 0, V.int 0, V.int 1, V.int 2])) R = some (.lst [V.int 0, V.int 0, V.int 1, V.int 2]) := upd_same
    have p2 := p1.new (o := .lst [V.int 0, V.int 0, V.int 1, V.int 2]) nR
    have nRp : R ≠ p := p1.ne nR
    generalize upd H1 R (.lst [V.int 0, V.int 0, V.int 1, V.int 2]) = H2 at t2 p2
    walk_at "go"
    refine ⟨p, 4, rfl, p2, by decide, by decide, fun H3 r b3 p3 r0 r1 => ?_⟩
    obtain ⟨mny, hm, m0, m2⟩ : ∃ rc : Int, ([V.int 0, V.int 0, V.int 1, V.int 2] : List V)[r.toNat]? = some (.int rc) ∧ 0 ≤ rc ∧ rc ≤ 2 := by
      have : r = 0 ∨ r = 1 ∨ r = 2 ∨ r = 3 := by omega
      rcases this with rfl | rfl | rfl | rfl
      · exact ⟨0, rfl, by decide, by decide⟩
      · exact ⟨0, rfl, by decide, by decide⟩
      · exact ⟨1, rfl, by decide, by decide⟩
      · exact ⟨2, rfl, by decide, by decide⟩
    refine x_ixl r.toNat (SqL.of (b3 _ _ t2 nRp)) (by omega) hm ?_
    walk_at "go"
    refine ⟨p, rfl, p3, fun H4 W l b4 p4 nW nWp hW nd ln nm bd => ?_⟩
    walk_at "go"
    refine ⟨p, W, l, rfl, p4, hW, nd, by omega, bd, fun H5 e b5 p5 el eh side => ?_⟩
    have hW5 := b5 _ _ hW nWp
    walk_at "go"
    refine ⟨sz_le (by simp), fun PL nPL => ?_⟩
    have nPp : PL ≠ p := p5.ne nPL
    have nPW : PL ≠ W := (ne_of_none hW5 nPL).symm
    have P6 : Parts K w (upd H5 PL (.lst [.ref W, .int e])) p PL 112 (.ref W) (.int e) [W] := by
      have hG : (woL (upd H5 PL (.lst [.ref W, .int e])) [p, PL]) W = some (.dK (vK (l.map fun q => (q.1, V.int q.2)))) := by
        rw [woL_at (by simp; exact ⟨nWp, Ne.symm nPW⟩), upd_ne (Ne.symm nPW), hW5, vK_int]
      refine ⟨nPp, upd_same, .good (m := l.map fun q => (q.1, V.int q.2)) hG (by rw [List.map_map]; exact nd) (fun q hq => ?_) (fun q hq => ?_) (by rw [List.length_map]; exact ln), ints_sml e (by omega) (by omega)⟩
      · obtain ⟨y, hy, rfl⟩ := List.mem_map.mp hq
        exact nm y hy
      · obtain ⟨y, hy, rfl⟩ := List.mem_map.mp hq
        have := bd y hy
        exact ints_sml y.2 (by omega) (by omega)
    have p6 := p5.new (o := .lst [.ref W, .int e]) nPL
    generalize upd H5 PL (.lst [.ref W, .int e]) = H6 at P6 p6
    refine if_joinH (α := Int) (fun e' H' => PoolAt H' p ∧ Parts K w H' p PL 112 (.ref W) (.int e') [W]) (fun _ => [some (.ref sa), some (.ref p), some (.int mny), some (.ref W), some (.ref PL), none, none, none, none, none, none, none]) ?_ ?_
    · intro n' hn'
      walk_at "go"
      refine ⟨p, 8, rfl, p6, by decide, by decide, fun H7 c b7 p7 c0 c1 => ?_⟩
      walk_at "go"
      refine x_dec (fun h1 => ?_) (fun h1 => ?_)
      · walk_at "go"
        refine ⟨p, 7, rfl, p7, by decide, by decide, fun H8 c2 b8 p8 c20 c21 => ?_⟩
        walk_at "go"
        have P8 := (P6.but b7).but b8
        refine x_setl (j := 1) P8.at_ rfl (by simp) ?_
        exact hn' (c2 - 3) _ ⟨p8.upd (Ne.symm nPp), nPp, upd_same, P8.wx.same (woL_to fun b o nb e => ⟨nb, by rw [upd_ne (fun z => nb (by rw [z]; simp))]; exact e⟩) (Nat.le_refl _), ints_sml _ (by omega) (by omega)⟩
      · walk_at "go"
        exact hn' e _ ⟨p7, P6.but b7⟩
    · rintro e' H7 ⟨p7, P7⟩
      walk_at "go"
      refine lpR (fun i σ H' => ∃ (v5 : Option V) (x ev : V) (ws : List Addr), σ = [some (.ref sa), some (.ref p), some (.int mny), some (.ref W), some (.ref PL), v5, none, none, none, none, none, none] ∧ PoolAt H' p ∧ Parts K w H' p PL (112 + i) x ev ws) ⟨by omega, by omega⟩ ?_ ?_ ?_
      · exact ⟨_, _, _, _, rfl, p7, P7⟩
      · rintro i σ H8 hi ⟨v5, x, ev, ws, rfl, p8, P8⟩
        walk_at "go"
        refine ⟨p, PL, 112 + i, x, ev, ws, rfl, p8, P8, by omega, fun H9 x' ev' ws' p9 P9 => ?_⟩
        walk_at "go"
        exact ⟨_, x', ev', ws', rfl, p9, P9⟩
      · rintro σ H8 ⟨v5, x, ev, ws, rfl, p8, P8⟩
        have hn2 : 112 + mny.toNat ≤ 200 := by omega
        obtain ⟨o, hWW⟩ := P8.wx.ww woL_same hn2
        obtain ⟨kev, fev⟩ := P8.oe.fi
        have hev : Kd K H8 ev kev := fev.1.same woL_same
        have smP : Sml w H8 4 90000 (.ref PL) := (sml_row (n := 3) (B := 41000) (.inl (.inl P8.at_)) fun y hy => by
          rcases List.mem_cons.mp hy with rfl | hy
          · exact P8.wx.sml woL_same hn2
          · rw [List.mem_singleton.mp hy]
            exact (P8.oe.sm.same woL_same).mono (by decide) (by decide)).mono (by decide) (by simp)
        have hPL := P8.at_
        clear P8 fev P7 P6 p6 p7 p8 hn2
        walk_at "go"
        refine x_reprU smP (by decide) (by decide) fun z hz => ?_
        walk_at "go"
        refine x_try ?_
        walk_at "go"
        refine x_mkS ?_
        walk_at "go"
        refine x_ixl 0 (SqL.of hPL) rfl rfl ?_
        walk_at "go"
        refine x_ixl 1 (SqL.of hPL) rfl rfl ?_
        intro Wi dW nWi ndW nn
        have sM : L2.Same H8 (upd (upd H8 dW (.own Wi)) Wi (.ins C dW [])) := (same_new ndW).trans (same_new (by rw [upd_ne (Ne.symm nn)]; exact nWi))
        refine ⟨Wi, dW, x, ev, o, rfl, upd_same, hWW.same sM, ⟨kev, hev.same sM⟩, fun l' i' eo ee g H9 kW wa => ⟨rfl, ?_⟩, fun ng H9 kW => ?_⟩
        · have s9 : L2.Same H8 H9 := same_made (L2.Same.refl _) nWi ndW kW
          subst eo ee
          obtain ⟨W', kvs', rfl, ek, hWD⟩ : ∃ W' kvs, x = .ref W' ∧ some (mI l') = some kvs ∧ WD K w H8 W' kvs := by
            rcases hWW with ⟨h, _⟩ | h
            · cases h
            · exact h
          injection ek with ek
          subst ek
          obtain ⟨l2, el2, hd8, nd2, ll2, nm2, bd2⟩ := hWD.ints (wgood_of g)
          have := mI_inj el2
          subst this
          walk_at "go"
          refine hz H9 s9 _ ?_
          walk_at "go"
          refine x_ndec (fun e => absurd rfl e) (fun _ => ?_)
          walk_at "go"
          refine x_ixl 0 (SqL.of (s9 _ _ hPL)) rfl rfl ?_
          walk_at "go"
          refine x_ixl 1 (SqL.of (s9 _ _ hPL)) rfl rfl ?_
          refine ⟨.ref W', .int i', some (mI l'), rfl, hWW.same s9, ⟨kev, hev.same s9⟩, fun H10 b s10 hb => ?_⟩
          have hb : b = true := hb.mpr ⟨l', i', rfl, rfl, g⟩
          subst hb
          have s810 := s9.trans s10
          walk_at "go"
          have wa10 := wa.same s10
          obtain ⟨dx, tb, lt, hwi, htb, hperm, hsrt⟩ := id wa10.ex
          have hPL10 := s810 _ _ hPL
          have hd10 := s810 _ _ hd8
          have nPW : PL ≠ W' := ne_of hPL hd8 (by intro z; cases z)
          refine x_dec (fun h => by cases h) (fun _ => ?_)
          walk_at "go"
          refine x_fld K_Wish N3 hwi (wF_coming _ _ _) ?_
          walk_at "go"
          refine x_isiBool (.bl _) ?_
          walk_at "go"
          refine x_nT ?_
          walk_at "go"
          refine x_fld K_Wish N2 hwi (wF_endless _ _ _) ?_
          walk_at "go"
          refine x_ixl 1 (SqL.of hPL10) rfl rfl ?_
          walk_at "go"
          refine x_ndec (fun e => absurd rfl e) (fun _ => ?_)
          walk_at "go"
          refine x_fld K_Wish N3 hwi (wF_coming _ _ _) ?_
          walk_at "go"
          refine x_lockE hd10 trivial fun od => ?_
          have hPLF : (upd H10 W' (.frz od (.dK (strK V.int l')))) PL = some (.lst [.ref W', .int i']) := by rw [upd_ne nPW]; exact hPL10
          walk_at "go"
          refine x_ixl 0 (SqL.of hPLF) rfl rfl ?_
          refine runK upd_same ?_
          intro B hB
          have nBW : B ≠ W' := fun z => by rw [z, upd_same] at hB; cases hB
          refine lcK (kvs := strK V.int l') (fun i H' => L2.Same (upd H10 W' (.frz od (.dK (strK V.int l')))) H' ∧ H' B = some (.lst (((l'.take i).map fun q => decide (i' ≤ q.2)).map V.bl))) ?_ ?_ ?_ ?_
          · exact ⟨same_new hB, upd_same⟩
          · exact fun i H' _ h => h.1 W' _ upd_same
          · rintro i k0 v0 H' hi ⟨s11, hL⟩
            obtain ⟨zz, xx, rfl, rfl, hlx⟩ := strK_at hi
            have hm := List.mem_of_getElem? hlx
            have hlt : i < l'.length := (List.getElem?_eq_some_iff.mp hlx).1
            walk_at "go"
            refine ⟨rfl, ?_⟩
            walk_at "go"
            refine x_ixl 1 (SqL.of (s11 _ _ hPLF)) rfl rfl ?_
            walk_at "go"
            refine x_ixl 0 (SqL.of (s11 _ _ hPLF)) rfl rfl ?_
            walk_at "go"
            refine x_getL (l := l') (.inr ⟨od, s11 _ _ upd_same⟩) (lookup_of nd2 hm) ?_
            walk_at "go"
            refine ⟨_, hL, sz_lt (by simp; omega), same_upd s11 hB, ?_⟩
            rw [upd_same, take_succ_get hlx]
            simp
          · rintro H11 ⟨s11, hL⟩
            have eL : (strK V.int l').length = l'.length := List.length_map ..
            rw [eL, List.take_length] at hL
            refine ⟨s11 W' _ upd_same, ?_⟩
            have s12 : L2.Same H10 (upd H11 W' (.dK (strK V.int l'))) := same_unlockF hd10 s11
            have hL : (upd H11 W' (.dK (strK V.int l'))) B = some (.lst ((l'.map fun q => decide (i' ≤ q.2)).map V.bl)) := by rw [upd_ne nBW]; exact hL
            generalize upd H11 W' (.dK (strK V.int l')) = H12 at s12 hL
            walk_at "go"
            refine ⟨B, _, rfl, SqL.of hL, ?_⟩
            have eb : (List.map (fun q : Str × Int => decide (i' ≤ q.2)) l').all id = comingB l' i' := by rw [List.all_map]; rfl
            rw [eb]
            walk_at "go"
            refine x_ndec (fun e => absurd rfl e) (fun _ => ?_)
            walk_at "go"
            have wa12 := wa10.same s12
            have eqs : ∀ {lD : List (Str × Int)}, lD.Perm l' → (strK V.int lD).length = (strK V.int l').length ∧ ∀ p ∈ strK V.int lD, valV (strK V.int l') p.1 = some p.2 ∧ flatB p.2 = true := fun {lD} hp => ⟨by rw [List.length_map, List.length_map]; exact hp.length_eq, fun p hpm => by
              obtain ⟨q, hq, rfl⟩ := List.mem_map.mp hpm
              refine ⟨?_, rfl⟩
              show valV (strK V.int l') (Sum.inr q.1) = some (V.int q.2)
              rw [strK_look, lookup_of nd2 (show (q.1, q.2) ∈ l' from hp.mem_iff.mp hq)]
              rfl⟩
            refine x_prp (s12 _ _ hwi) ?_
            refine ⟨Wi, i', l', rfl, wa12, nd2, by omega, fun H13 Dd lD s13 nDd hDd hpD => ?_⟩
            walk_at "go"
            refine x_isiDict (.dict (.inl hDd)) ?_
            rw [show isB .dict .dict = true from rfl]
            walk_at "go"
            refine x_ixl 0 (SqL.of (s13 _ _ (s12 _ _ hPL10))) rfl rfl ?_
            refine ⟨Dd, W', strK V.int lD, strK V.int l', rfl, rfl, hDd, s13 _ _ (s12 _ _ hd10), (eqs hpD).1, (eqs hpD).2, ?_⟩
            walk_at "go"
            refine x_putL (l := lD) (f := V.int) (x := 3) hDd (by rw [hpD.length_eq]; omega) rfl ?_
            have s14 : L2.Same H12 (upd H13 Dd (.dK (strK V.int (putL lD (Str.ofString "another") 3)))) := same_upd s13 nDd
            generalize upd H13 Dd (.dK (strK V.int (putL lD (Str.ofString "another") 3))) = H14 at s14
            walk_at "go"
            refine x_prp (s14 _ _ (s12 _ _ hwi)) ?_
            refine ⟨Wi, i', l', rfl, wa12.same s14, nd2, by omega, fun H15 De lE s15 nDe hDe hpE => ?_⟩
            walk_at "go"
            refine x_ixl 0 (SqL.of (s15 _ _ (s14 _ _ (s12 _ _ hPL10)))) rfl rfl ?_
            refine ⟨De, W', strK V.int lE, strK V.int l', rfl, rfl, hDe, s15 _ _ (s14 _ _ (s12 _ _ hd10)), (eqs hpE).1, (eqs hpE).2, ?_⟩
            exact k _
        · have s9 : L2.Same H8 H9 := same_made (L2.Same.refl _) nWi ndW kW
          refine x_caughtE e1 fun ex hex => ?_
          walk_at "go"
          refine x_isX I_BadWish e2 ?_
          walk_at "go"
          refine x_isXT I_BadWish e3 ?_
          walk_at "go"
          refine x_sEnd7 ?_
          walk_at "go"
          refine hz H9 s9 _ ?_
          walk_at "go"
          refine x_ndec (fun e => absurd rfl e) (fun _ => ?_)
          walk_at "go"
          refine x_ixl 0 (SqL.of (s9 _ _ hPL)) rfl rfl ?_
          walk_at "go"
          refine x_ixl 1 (SqL.of (s9 _ _ hPL)) rfl rfl ?_
          refine ⟨x, ev, o, rfl, hWW.same s9, ⟨kev, hev.same s9⟩, fun H10 b s10 hb => ?_⟩
          have hb : b = false := by
            cases b with
            | false => rfl
            | true => exact absurd (hb.mp rfl) ng
          subst hb
          walk_at "go"
          refine x_ndec (fun _ => ?_) (fun h => by cases h)
          walk_at "go"
          exact k _
end
end Law
namespace Law
open PySem PySem.Spec PyProof.Rows L2 Ox
theorem facts {P : Program} {w : World} {K : PySem.W.Frag} {h : Heap} {mg : Str → Option Value} {f : Addr} (X : K.In h) (G : h.Ns mainGlobals mg) (hfa : mg ("law" : Str) = some (.ref f)) (hPf : ((P.main.file : Str) == "/claim/cut.py") = true) (hPt : (P.main.scope.names.lookup ("super" : Str)).isSome = false) (c2 : Oh.Told2 "/claim/cut.py" faA dsA ssA K) :
    ∃ fd : FuncData, (∀ (s : Shared) (v : Value), BindsTo s fd ⟨[v], []⟩ [("_law_script", v)]) ∧ ∀ base : Heap, K.In base → base.Ns mainGlobals mg → FnL P w K mg base f fd ["_law_script"] ((spLaw K)) := by
  have c := c2.told
  obtain ⟨_, F_law⟩ := c.def_ 0 (d := d_law) rfl
  have e := hfa.symm.trans (He.glo_ok X G (c.fact 0 (f := Oh.fo (.glo "law")) rfl))
  cases e
  have b := Oh.bindsA (ps := ["_law_script"]) F_law fun _ _ _ _ _ _ us hl => match us, hl with | [_], _ => rfl
  refine ⟨_, fun s v => b s [v] rfl, fun base _ _ => ?_⟩
  have x1 : mg "range" = none := He.free_ok X G (c.fact 1 (f := Oh.fo (.free "range")) rfl)
  have x2 : mg "dict" = none := He.free_ok X G (c.fact 2 (f := Oh.fo (.free "dict")) rfl)
  have x3 : mg "all" = none := He.free_ok X G (c.fact 3 (f := Oh.fo (.free "all")) rfl)
  have x4 : mg "bool" = none := He.free_ok X G (c.fact 4 (f := Oh.fo (.free "bool")) rfl)
  have x5 : mg "isinstance" = none := He.free_ok X G (c.fact 5 (f := Oh.fo (.free "isinstance")) rfl)
  have x6 : mg "repr" = none := He.free_ok X G (c.fact 6 (f := Oh.fo (.free "repr")) rfl)
  have x7 : mg "ValueError" = none := He.free_ok X G (c.fact 7 (f := Oh.fo (.free "ValueError")) rfl)
  have x8 : (K.lookup sysModules).isSome = true := (c.fact 8 (f := fun K => (K.lookup sysModules).isSome) rfl)
  have x9 : mg "BadWish" = some (.ref (He.ga K "BadWish")) := He.glo_ok X G (c.fact 9 (f := Oh.fo (.glo "BadWish")) rfl)
  have x10 : mg "OwnError" = some (.ref (He.ga K "OwnError")) := He.glo_ok X G (c.fact 10 (f := Oh.fo (.glo "OwnError")) rfl)
  have x11 : ExcC K (He.ga K "BadWish") := excCF_ok (c.fact 11 (f := excCF "BadWish") rfl)
  have x12 : PySem.W.exmOne K (.ref (He.ga K "BadWish")) (.ref (He.ga K "BadWish")) = some true := exmF_ok (c.fact 12 (f := exmF "BadWish" "BadWish" true) rfl)
  have x13 : PySem.W.kitOne K (.ref (He.ga K "BadWish")) (.ref (He.ga K "OwnError")) = some true := kitF_ok (c.fact 13 (f := kitF "BadWish" "OwnError" true) rfl)
  have x14 : PySem.W.kitOne K (.ref (He.ga K "BadWish")) (.type "ValueError") = some true := kitTF_ok (c.fact 14 (f := kitTF "BadWish" "ValueError" true) rfl)
  have x15 : Cls K (He.ga K "Wish") := He.cls_ok (c.fact 15 (f := Oh.fo (.cls "Wish")) rfl)
  have x16 : NoAttr K (He.ga K "Wish") "endless" := He.noat_ok (c.fact 16 (f := Oh.fo (.noat "Wish" "endless")) rfl)
  have x17 : NoAttr K (He.ga K "Wish") "coming" := He.noat_ok (c.fact 17 (f := Oh.fo (.noat "Wish" "coming")) rfl)
  obtain ⟨_, F_Wish_worths⟩ := c.def_ 1 (d := d_Wish_worths) rfl
  have x18 : NoAttr K (He.ga K "Wish") "table" := He.noat_ok (c.fact 18 (f := Oh.fo (.noat "Wish" "table")) rfl)
  have x19 : Prp P w K mg base (He.ga K "Wish") 1 "worths" (spWorths (He.ga K "Wish")) := ⟨_, _, _, Oh.propB_ok (c.fact 19 (f := Oh.propB "Wish" "worths") rfl), ok_Wish_worths F_Wish_worths x15 x18, bd_Wish_worths F_Wish_worths⟩
  obtain ⟨_, F_pool⟩ := c.def_ 2 (d := d_pool) rfl
  have x20 : mg "len" = none := He.free_ok X G (c.fact 20 (f := Oh.fo (.free "len")) rfl)
  have x21 : mg "int" = none := He.free_ok X G (c.fact 21 (f := Oh.fo (.free "int")) rfl)
  have x22 : mg "min" = none := He.free_ok X G (c.fact 22 (f := Oh.fo (.free "min")) rfl)
  have x23 : Cal P w K mg base 1 "_law_pool" ["_law_script"] (spPool K) := ⟨_, _, ok_pool F_pool x20 x21 x22 x1, He.glo_ok X G (c.fact 23 (f := Oh.fo (.glo "_law_pool")) rfl), F_pool.kp, bd_pool F_pool⟩
  obtain ⟨_, F_draw⟩ := c.def_ 3 (d := d_draw) rfl
  have x24 : Cal P w K mg base 1 "_law_draw" ["_law_pool_here", "_law_many"] spDraw := ⟨_, _, ok_draw F_draw x20 x21, He.glo_ok X G (c.fact 24 (f := Oh.fo (.glo "_law_draw")) rfl), F_draw.kp, bd_draw F_draw⟩
  obtain ⟨_, F_l_drawn_worths⟩ := c.def_ 4 (d := d_l_drawn_worths) rfl
  have x25 : mg "str" = none := He.free_ok X G (c.fact 25 (f := Oh.fo (.free "str")) rfl)
  obtain ⟨_, F_words⟩ := c.def_ 5 (d := d_words) rfl
  obtain ⟨_, F_word⟩ := c.def_ 6 (d := d_word) rfl
  have x26 : Cal P w K mg base 2 "_law_word" ["_law_pool_here", "_law_longest"] spWord := ⟨_, _, ok_word F_word x1 x24, He.glo_ok X G (c.fact 26 (f := Oh.fo (.glo "_law_word")) rfl), F_word.kp, bd_word F_word⟩
  have x27 : Cal P w K mg base 3 "_law_words" ["_law_pool_here", "_law_many"] spWords := ⟨_, _, ok_words F_words x1 x25 x24 x26, He.glo_ok X G (c.fact 27 (f := Oh.fo (.glo "_law_words")) rfl), F_words.kp, bd_words F_words⟩
  have x28 : Cal P w K mg base 4 "_law_drawn_worths" ["_law_pool_here"] spDrawnW := ⟨_, _, ok_l_drawn_worths F_l_drawn_worths x1 x25 x24 x27, He.glo_ok X G (c.fact 28 (f := Oh.fo (.glo "_law_drawn_worths")) rfl), F_l_drawn_worths.kp, bd_l_drawn_worths F_l_drawn_worths⟩
  obtain ⟨_, F_endless⟩ := c.def_ 7 (d := d_endless) rfl
  have x29 : mg "max" = none := He.free_ok X G (c.fact 29 (f := Oh.fo (.free "max")) rfl)
  have x30 : Cal P w K mg base 2 "_law_endless" ["_law_pool_here", "_law_wanted"] spEndless := ⟨_, _, ok_endless F_endless x20 x29 x22 x24, He.glo_ok X G (c.fact 30 (f := Oh.fo (.glo "_law_endless")) rfl), F_endless.kp, bd_endless F_endless⟩
  obtain ⟨_, F_l_spoil_wish⟩ := c.def_ 8 (d := d_l_spoil_wish) rfl
  have x31 : mg "list" = none := He.free_ok X G (c.fact 31 (f := Oh.fo (.free "list")) rfl)
  obtain ⟨_, F_l_thing⟩ := c.def_ 9 (d := d_l_thing) rfl
  have x32 : Cal P w K mg base 2 "_law_thing" ["_law_pool_here"] (spThingY K w) := ⟨_, _, ok_l_thing F_l_thing x24, He.glo_ok X G (c.fact 32 (f := Oh.fo (.glo "_law_thing")) rfl), F_l_thing.kp, bd_l_thing F_l_thing⟩
  obtain ⟨_, F_l_key⟩ := c.def_ 10 (d := d_l_key) rfl
  have x33 : Cal P w K mg base 1 "_law_key" ["_law_thing_here"] (spKeyL K w) := ⟨_, _, ok_l_key F_l_key x31 x2 x5, He.glo_ok X G (c.fact 33 (f := Oh.fo (.glo "_law_key")) rfl), F_l_key.kp, bd_l_key F_l_key⟩
  have x34 : Cal P w K mg base 3 "_law_spoil_wish" ["_law_pool_here", "_law_parts"] (spSpoilW K w) := ⟨_, _, ok_l_spoil_wish F_l_spoil_wish x2 x20 x31 x5 x24 x32 x33, He.glo_ok X G (c.fact 34 (f := Oh.fo (.glo "_law_spoil_wish")) rfl), F_l_spoil_wish.kp, bd_l_spoil_wish F_l_spoil_wish⟩
  obtain ⟨_, F_Wish_init⟩ := c.def_ 11 (d := d_Wish_init) rfl
  have x35 : mg "sorted" = none := He.free_ok X G (c.fact 35 (f := Oh.fo (.free "sorted")) rfl)
  have x36 : Exc0 K mg "BadWish" (He.ga K "BadWish") := exc0F_ok (He.glo_ok X G (c.fact 9 (f := Oh.fo (.glo "BadWish")) rfl)) (c.fact 36 (f := exc0F "BadWish") rfl)
  obtain ⟨_, F_are_worths⟩ := c.def_ 12 (d := d_are_worths) rfl
  obtain ⟨_, F_is_name⟩ := c.def_ 13 (d := d_is_name) rfl
  have x37 : Cal P w K mg base 1 "is_name" ["thing"] (spIsName K) := ⟨_, _, ok_is_name F_is_name x25 x20 x5, He.glo_ok X G (c.fact 37 (f := Oh.fo (.glo "is_name")) rfl), F_is_name.kp, bd_is_name F_is_name⟩
  obtain ⟨_, F_is_value⟩ := c.def_ 14 (d := d_is_value) rfl
  obtain ⟨_, F_is_integer⟩ := c.def_ 15 (d := d_is_integer) rfl
  have x38 : Cal P w K mg base 1 "is_integer" ["thing"] (spIsInt K) := ⟨_, _, ok_is_integer F_is_integer x21 x4 x5, He.glo_ok X G (c.fact 38 (f := Oh.fo (.glo "is_integer")) rfl), F_is_integer.kp, bd_is_integer F_is_integer⟩
  have x39 : Cal P w K mg base 2 "is_value" ["thing"] (spIsValue K) := ⟨_, _, ok_is_value F_is_value x38, He.glo_ok X G (c.fact 39 (f := Oh.fo (.glo "is_value")) rfl), F_is_value.kp, bd_is_value F_is_value⟩
  have x40 : Cal P w K mg base 3 "are_worths" ["thing"] (spAreW K w) := ⟨_, _, ok_are_worths F_are_worths x2 x20 x5 x37 x39, He.glo_ok X G (c.fact 40 (f := Oh.fo (.glo "are_worths")) rfl), F_are_worths.kp, bd_are_worths F_are_worths⟩
  have x41 : MkcX P w K mg base (He.ga K "Wish") 4 "Wish" ["self", "worths", "endless"] (spWishX K w (He.ga K "Wish") (He.ga K "BadWish")) := ⟨_, _, He.mkr_ok (c.fact 41 (f := Oh.fo (.mkr "Wish")) rfl), ok_Wish_initX F_Wish_init x15 x18 x16 x17 x31 x3 x35 x36 x40 x39, He.glo_ok X G (c.fact 42 (f := Oh.fo (.glo "Wish")) rfl), bd_Wish_init F_Wish_init⟩
  obtain ⟨_, F_l_is_good⟩ := c.def_ 16 (d := d_l_is_good) rfl
  obtain ⟨_, F_l_is_name⟩ := c.def_ 17 (d := d_l_is_name) rfl
  have x42 : Cal P w K mg base 1 "_law_is_name" ["_law_thing_here"] (spIsNameN K) := ⟨_, _, ok_l_is_name F_l_is_name x25 x20 x3 x5, He.glo_ok X G (c.fact 43 (f := Oh.fo (.glo "_law_is_name")) rfl), F_l_is_name.kp, bd_l_is_name F_l_is_name⟩
  obtain ⟨_, F_l_is_value⟩ := c.def_ 18 (d := d_l_is_value) rfl
  obtain ⟨_, F_l_is_int⟩ := c.def_ 19 (d := d_l_is_int) rfl
  have x43 : Cal P w K mg base 1 "_law_is_int" ["_law_thing_here"] (spIsInt K) := ⟨_, _, ok_l_is_int F_l_is_int x21 x4 x5, He.glo_ok X G (c.fact 44 (f := Oh.fo (.glo "_law_is_int")) rfl), F_l_is_int.kp, bd_l_is_int F_l_is_int⟩
  have x44 : Cal P w K mg base 2 "_law_is_value" ["_law_thing_here"] (spIsValue K) := ⟨_, _, ok_l_is_value F_l_is_value x43, He.glo_ok X G (c.fact 45 (f := Oh.fo (.glo "_law_is_value")) rfl), F_l_is_value.kp, bd_l_is_value F_l_is_value⟩
  have x45 : Cal P w K mg base 3 "_law_is_good" ["_law_worths", "_law_endless_here"] (spGoodL K w) := ⟨_, _, ok_l_is_good F_l_is_good x2 x20 x3 x5 x42 x44, He.glo_ok X G (c.fact 46 (f := Oh.fo (.glo "_law_is_good")) rfl), F_l_is_good.kp, bd_l_is_good F_l_is_good⟩
  exact ok_law F_law x1 x2 x3 x4 x5 x6 x7 x8 x9 x10 x11 x12 x13 x14 x15 x16 x17 x19 x23 x24 x28 x30 x34 x41 x45
end Law
open PySem PySem.W PySem.Calls PyProof.Rows
theorem PySem.Challenge.cw_ownslips_k07_wishes_judged_holds : PySem.Challenge.rw_ownslips_k07_wishes_judged.Holds := by
  refine Law.hz0 ?_
  refine HandSHeadRun.head_any (r := OpenLaw.row PySem.Challenge.rw_ownslips_k07_wishes_judged) (q := view (PySem.W.OpenLaw.row PySem.Challenge.rw_ownslips_k07_wishes_judged).prog [24]) (H := Law.hk) (ob := Law.ob) (M := 6000) (loose := Law.loA) (d := HandSHeadRun.topDef (PySem.W.OpenLaw.row PySem.Challenge.rw_ownslips_k07_wishes_judged).prog 24) (kwd := []) Law.ob_eq
    Law.hz1 Law.hz2 Law.run Law.hz3 Law.hz4 Law.hz5 Law.hz6 Law.hz7 Law.hz8 Law.hz9 Law.hz10 ?hc
  case hc =>
    refine Ox.walk_ofL (l := PySem.Challenge.rw_ownslips_k07_wishes_judged) (n := 63) (x := "_law_script") rfl (by decide) (by kernel_rfl) ?F
    intro w mg fa h Y G hmg0
    obtain ⟨K, KX, c⟩ := Y
    have hmg : mg ("law" : PySem.Str) = some (.ref fa) := by
      have e : (HandSHeadRun.topDef (PySem.W.OpenLaw.row PySem.Challenge.rw_ownslips_k07_wishes_judged).prog 24).name = ("law" : PySem.Str) := by kernel_rfl
      rw [← e]
      exact hmg0
    obtain ⟨fd, hb, hF⟩ := Law.facts (P := (PySem.Challenge.rw_ownslips_k07_wishes_judged).prog) (w := w) KX G hmg (by kernel_rfl) (by kernel_rfl) c
    exact ⟨K, fd, Law.spLaw K, KX, hb, fun H a ns hl _ hS => ⟨a, ns, rfl, hS, hl, fun _ => rfl⟩, hF⟩
