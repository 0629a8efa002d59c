import PyProof.Rows.All
import Wide.All
import OpenK.AllK
import Wide.FinOn
import HandS.ForMost
import HandS.Defaults
import HandS.Head0
import HandS.Head1
import HandS.Head2
import HandS.HeadEnd
import HandS.HeadHook1
import HandS.HeadHook2
import HandS.Property
import PyProof.Rows.RuleB_pow
import PyProof.Rows.SortShellAny
import HandS.TryOnly
import HandS.Wide
import HandS.Walk
import HandS.IsInst
import HandS.DictComp
import HandS.Style
import HandS.Flow
import HandS.TupAny
import HandS.ListItems
import HandS.Conv
import HandS.OwnEq
import KE.GoesMore
import KE.GoesEnum
import HandS.Iter
import HandS.SortKw
import HandS.More
import HandS.Finally
import KE.KDictSum
import HandS.SortRule
import HandS.SortOrd
import KE.KSortTup
import PyProof.ReprRoads
import HandS.Dict
import HandS.WordsExc
import HandS.ExcIs
import HandS.ExcField
import KE.KExcSuper
import KE.KSuper
import HandS.ExcInit
import HandS.TryMany
import KE.KEqNest
import KE.KExcIs
import HandS.ExcValue
import HandS.SetFor
import HandS.HotCalls
import PySem.Challenge.RW_ownslips_k10_errors
set_option Elab.async false
set_option linter.all false
set_option maxRecDepth 100000
set_option maxHeartbeats 4000000
/-! Own hook: facts are any Bool of the written part, defs stand at any address that the written part tells. -/
namespace Oh
open PySem PySem.Spec PyProof.Rows L2
abbrev Frag := PySem.W.Frag
/-- a def: where it stands and its text -/
structure Dd where
  spot : Frag → Addr
  name : Str
  qual : Str
  st : Stmt
def Dd.fnd (d : Dd) (K : Frag) : He.FnW := (K.lookup (d.spot K)).bind fun o => match o.data with
  | .func fd => some (fd.name, fd.qualname, fd.params, fd.body, fd.scope, fd.globals, fd.closure, fd.builtins)
  | _ => none
def Dd.due (d : Dd) : He.FnW := some (d.name, d.qual, defArgs d.st, .stmts (defBody d.st), defScope d.st, mainGlobals, [], builtinsNs)
def isNon : Value → Bool
  | .none => true
  | _ => false
def Dd.good (d : Dd) (K : Frag) : Bool := match K.lookup (d.spot K) with
  | some o => (match o.data with
    | .func fd => PySem.W.keepIn K (.ref (d.spot K)) && (PySem.W.codeIn K fd.code d.qual && isNon fd.defaults)
    | _ => false)
  | none => false
theorem Dd.fun_ {d : Dd} {K : Frag} (e : d.fnd K = d.due) (g : d.good K = true) : ∃ fd, Fun K d.name d.qual d.st (d.spot K) fd := by
  unfold Dd.fnd at e
  unfold Dd.good at g
  cases q : K.lookup (d.spot K) with
  | none => rw [q] at g; cases g
  | some o =>
    obtain ⟨oc, od, dt, osl⟩ := o
    rw [q] at e g
    cases dt with
    | func fd =>
      obtain ⟨n1, n2, n3, n4, n5, n6, n7, n8, n9, n10, n11, n12, n13, n14, n15⟩ := fd
      have e2 : (some (n1, n2, n3, n4, n5, n6, n7, n15) : He.FnW) = some (d.name, d.qual, defArgs d.st, .stmts (defBody d.st), defScope d.st, mainGlobals, [], builtinsNs) := e
      have g2 : (PySem.W.keepIn K (.ref (d.spot K)) && (PySem.W.codeIn K n13 d.qual && isNon n8)) = true := g
      obtain ⟨g3, g4⟩ := Bool.and_eq_true_iff.mp g2
      obtain ⟨g5, g6⟩ := Bool.and_eq_true_iff.mp g4
      have e8 : n8 = .none := by
        cases n8 with
        | none => rfl
        | _ => cases g6
      simp only [Option.some.injEq, Prod.mk.injEq] at e2
      obtain ⟨h1, h2, h3, h4, h5, h6, h7, h8⟩ := e2
      subst h1 h2 h3 h4 h5 h6 h7 h8 e8
      exact ⟨_, ⟨oc, od, n9, n10, n11, n12, n13, n14, osl, rfl, q, g5⟩, g3⟩
    | _ => cases g
abbrev Ob : Type := Bool × List He.FnW
def see (fa : List (Frag → Bool)) (ds : List Dd) (K : Frag) : Ob := ((fa.all fun f => f K) && ds.all fun d => d.good K, ds.map fun d => d.fnd K)
def want (ds : List Dd) : Ob := (true, ds.map Dd.due)
def Told (fa : List (Frag → Bool)) (ds : List Dd) (K : Frag) : Prop := see fa ds K = want ds
def seeG (n : Nat) (fa : List (Frag → Bool)) (ds : List Dd) (g : Addr → Option Obj) : Ob := see fa ds (He.frG g (sysModules :: He.asD g n))
def hook (n : Nat) (fa : List (Frag → Bool)) (ds : List Dd) : PySem.W.Hook where
  α := Ob
  obs := fun s => seeG n fa ds s.heap.get?
  val := fun _ => want ds
  says := fun _ h => ∃ K : Frag, K.In h ∧ Told fa ds K
  of := fun _ _ e => ⟨_, He.frG_in, e⟩
  keeps := fun _ _ _ ⟨K, hK, c⟩ k => ⟨K, PySem.W.Frag.In.keeps hK k, c⟩
def obT (n : Nat) (fa : List (Frag → Bool)) (ds : List Dd) (s : PySem.W.SharedT) : Ob := seeG n fa ds (HandSHeadRun.getT s)
theorem obT_eq {n : Nat} {fa : List (Frag → Bool)} {ds : List Dd} (s : PySem.W.SharedT) : obT n fa ds s = (hook n fa ds).obs s.abs := by
  have e : HandSHeadRun.getT s = s.abs.heap.get? := funext (HandSHeadRun.getT_eq s)
  show seeG n fa ds (HandSHeadRun.getT s) = seeG n fa ds s.abs.heap.get?
  rw [e]
section
variable {fa : List (Frag → Bool)} {ds : List Dd} {K : Frag}
theorem Told.fact (c : Told fa ds K) (i : Nat) {f : Frag → Bool} (h : fa[i]? = some f) : f K = true := by
  have c1 := congrArg (fun z : Ob => z.1) c
  have c2 := (Bool.and_eq_true_iff.mp (show ((fa.all fun f => f K) && ds.all fun d => d.good K) = true from c1)).1
  exact List.all_eq_true.mp c2 f (List.mem_of_getElem? h)
theorem Told.def_ (c : Told fa ds K) (i : Nat) {d : Dd} (h : ds[i]? = some d) : ∃ fd, Fun K d.name d.qual d.st (d.spot K) fd := by
  have c1 := congrArg (fun z : Ob => z.1) c
  have c2 := (Bool.and_eq_true_iff.mp (show ((fa.all fun f => f K) && ds.all fun d => d.good K) = true from c1)).2
  have e : ds.map (fun d => d.fnd K) = ds.map Dd.due := congrArg (fun z : Ob => z.2) c
  have e2 : (ds.map fun d => d.fnd K)[i]? = (ds.map Dd.due)[i]? := by rw [e]
  rw [List.getElem?_map, List.getElem?_map, h] at e2
  exact Dd.fun_ (Option.some.inj e2) (List.all_eq_true.mp c2 d (List.mem_of_getElem? h))
end
/-! facts -/
def fo (f : He.Fa) : Frag → Bool := fun K => f.ok K
/-- the property's getter -/
def ga2 (K : Frag) (C f : Str) : Addr := match PySem.W.recIn K (He.ma K (He.ga K C) f) "property" with
  | some (.ref g :: _) => g
  | _ => 0
def isRefHd (o : Option (List Value)) (g : Addr) : Bool := match o with
  | some (.ref h :: _) => decide (h = g)
  | _ => false
/-- the class C has the name f as a property -/
def propB (C f : Str) : Frag → Bool := fun K => He.eqO (PySem.W.findIn K (.ref (He.ga K C)) f) (some (some (.ref (He.ma K (He.ga K C) f)))) &&
  (He.eqO (PySem.W.specialIn K (.ref (He.ma K (He.ga K C) f)) "__get__") (some (some (.builtin "property.__get__"))) &&
  (decide (PySem.W.takesIn K (.ref (He.ma K (He.ga K C) f)) = some true) && isRefHd (PySem.W.recIn K (He.ma K (He.ga K C) f) "property") (ga2 K C f)))
theorem propB_ok {C f : Str} {K : Frag} (h : propB C f K = true) : PropOf K (He.ga K C) f (He.ma K (He.ga K C) f) (ga2 K C f) := by
  obtain ⟨h1, h⟩ := Bool.and_eq_true_iff.mp h
  obtain ⟨h2, h⟩ := Bool.and_eq_true_iff.mp h
  obtain ⟨h3, h4⟩ := Bool.and_eq_true_iff.mp h
  refine ⟨He.eqO_ok h1, He.eqO_ok h2, of_decide_eq_true h3, ?_⟩
  unfold isRefHd at h4
  cases q : PySem.W.recIn K (He.ma K (He.ga K C) f) "property" with
  | none => rw [q] at h4; cases h4
  | some l =>
    rw [q] at h4
    cases l with
    | nil => cases h4
    | cons v r =>
      cases v with
      | ref g =>
        have e : g = ga2 K C f := of_decide_eq_true h4
        exact ⟨r, by rw [e]⟩
      | _ => cases h4
/-- how the law's def binds, at every heap -/
theorem bindsA {K : Frag} {x qual : Str} {st : Stmt} {f : Addr} {fd : FuncData} {ps : List Str} (F : Fun K x qual st f fd)
    (h : ∀ (kV doc pm : Value) (an : Option Addr) (cdv ct : Value) (us : List Value), us.length = ps.length → bindArgs (PySem.W.fnOf x qual (defArgs st) (defBody st) (defScope st) .none kV doc pm an cdv ct) ⟨us, []⟩ = pure (ps.zip us))
    (s : Shared) (us : List Value) (hl : us.length = ps.length) : BindsTo s fd ⟨us, []⟩ (ps.zip us) := by
  obtain ⟨_, _, kV, doc, pm, an, cdv, ct, _, e, _⟩ := F.ex
  subst e
  exact BindsTo.of_eq (h kV doc pm an cdv ct us hl)
end Oh

namespace Oh
open PySem PySem.Spec PyProof.Rows L2
/-- a class's __init__ that says super(): the class's name, its field, the def -/
structure Sd where
  cls : Str
  fld : Str
  qual : Str
  st : Stmt
abbrev Sd.spot (d : Sd) (K : Frag) : Addr := He.ma K (He.ga K d.cls) "__init__"
def Sd.fnd (d : Sd) (K : Frag) : He.FnW := (K.lookup (d.spot K)).bind fun o => match o.data with
  | .func fd => some (fd.name, fd.qualname, fd.params, fd.body, fd.scope, fd.globals, [], fd.builtins)
  | _ => none
def Sd.due (d : Sd) : He.FnW := some ("__init__", d.qual, defArgs d.st, .stmts (defBody d.st), defScope d.st, mainGlobals, [], builtinsNs)
/-- the cell holds the class, the code is of the file -/
def cellB (K : Frag) (C : Addr) : List (Str × Addr) → Bool
  | [(n, cc)] => decide (n = "__class__") && (match K.lookup cc with
    | some o => (match o.data with
      | .cell (some (.ref D)) => decide (D = C)
      | _ => false)
    | none => false)
  | _ => false
def fileB (K : Frag) (file : Str) : Value → Bool
  | .ref cda => (match K.lookup cda with
    | some o => (match o.data with
      | .fields vs => (match (vs[2]? : Option Value) with
        | some (Value.str f _) => decide (f = file)
        | _ => false)
      | _ => false)
    | none => false)
  | _ => false
def Sd.good (d : Sd) (file : Str) (K : Frag) : Bool := match K.lookup (d.spot K) with
  | some o => (match o.data with
    | .func fd => cellB K (He.ga K d.cls) fd.closure && (fileB K file fd.code && (PySem.W.codeIn K fd.code d.qual && isNon fd.defaults))
    | _ => false)
  | none => false
/-- the class's object -/
def oexB (K : Frag) (C : Addr) : Bool := match K.lookup C with
  | some ⟨.type "type", _, .cls cd, sl⟩ => (match cd.mro, sl.toList with
    | .ref C' :: bm, [_, _, _, _, some (.builtin n), _] => C' == C && n == "ValueError.__new__" && !cd.hasDel && cd.hasDict && PySem.HandSPX.refsVE bm
    | _, _ => false)
  | _ => false
/-- all that the written part says of the class, as one Bool -/
def supB (x y : Str) : Frag → Bool := fun K =>
  oexB K (He.ga K x) && (He.eqO (PySem.W.findIn K (.ref (He.ga K x)) "__setattr__") (some (some (.builtin "object.__setattr__"))) && (He.eqO (PySem.W.findIn K (.ref (He.ga K x)) "__getattribute__") (some (some (.builtin "BaseException.__getattribute__"))) &&
  (He.eqO (PySem.W.findIn K (.ref (He.ga K x)) "__getattr__") (some none) && (He.eqO (PySem.W.findIn K (.ref (He.ga K x)) y) (some none) && (He.eqO (PySem.W.findIn K (.ref (He.ga K x)) "__init__") (some (some (.ref (He.ma K (He.ga K x) "__init__")))) &&
  (decide (PySem.W.typeIn K (.ref (He.ma K (He.ga K x) "__init__")) = some (.type "function")) && (PySem.W.keepIn K (.ref (He.ga K x)) && (decide (PySem.W.subIn K (.ref (He.ga K x)) (.type "BaseException") = some true) && (decide (PySem.W.subIn K (.ref (He.ga K x)) (.type "ValueError") = some true) &&
  (decide (PySem.W.mroIn K (He.ga K x) (.ref (He.ga K x)) = some true) && (decide (PySem.W.typeIn K (.ref (He.ga K x)) = some (.type "type")) && (PySem.W.hasDictIn K (He.ga K x) && (He.eqO (PySem.W.nsIn K PySem.cStatics "thirdparty.any") (some none) &&
  He.eqO (PySem.W.ks_superIn K (He.ga K x) (He.ga K x) "__init__") (some (some (.builtin "ValueError.__init__"))))))))))))))))
def see2 (file : Str) (fa : List (Frag → Bool)) (ds : List Dd) (ss : List Sd) (K : Frag) : Ob := ((fa.all fun f => f K) && (ds.all (fun d => d.good K) && ss.all fun d => d.good file K), ds.map (fun d => d.fnd K) ++ ss.map fun d => d.fnd K)
def want2 (ds : List Dd) (ss : List Sd) : Ob := (true, ds.map Dd.due ++ ss.map Sd.due)
def Told2 (file : Str) (fa : List (Frag → Bool)) (ds : List Dd) (ss : List Sd) (K : Frag) : Prop := see2 file fa ds ss K = want2 ds ss
def seeG2 (n : Nat) (file : Str) (fa : List (Frag → Bool)) (ds : List Dd) (ss : List Sd) (g : Addr → Option Obj) : Ob := see2 file fa ds ss (He.frG g (cStatics :: sysModules :: He.asD g n))
def hook2 (n : Nat) (file : Str) (fa : List (Frag → Bool)) (ds : List Dd) (ss : List Sd) : PySem.W.Hook where
  α := Ob
  obs := fun s => seeG2 n file fa ds ss s.heap.get?
  val := fun _ => want2 ds ss
  says := fun _ h => ∃ K : Frag, K.In h ∧ Told2 file fa ds ss K
  of := fun _ _ e => ⟨_, He.frG_in, e⟩
  keeps := fun _ _ _ ⟨K, hK, c⟩ k => ⟨K, PySem.W.Frag.In.keeps hK k, c⟩
def obT2 (n : Nat) (file : Str) (fa : List (Frag → Bool)) (ds : List Dd) (ss : List Sd) (s : PySem.W.SharedT) : Ob := seeG2 n file fa ds ss (HandSHeadRun.getT s)
theorem obT2_eq {n : Nat} {file : Str} {fa : List (Frag → Bool)} {ds : List Dd} {ss : List Sd} (s : PySem.W.SharedT) : obT2 n file fa ds ss s = (hook2 n file fa ds ss).obs s.abs := by
  have e : HandSHeadRun.getT s = s.abs.heap.get? := funext (HandSHeadRun.getT_eq s)
  show seeG2 n file fa ds ss (HandSHeadRun.getT s) = seeG2 n file fa ds ss s.abs.heap.get?
  rw [e]
end Oh
namespace Oh
open PySem PySem.Spec PyProof.Rows L2
/-! the hook over places that are told by number -/
def hookA2 (as : List Addr) (file : Str) (fa : List (Frag → Bool)) (ds : List Dd) (ss : List Sd) : PySem.W.Hook where
  α := Ob
  obs := fun s => see2 file fa ds ss (He.frG s.heap.get? as)
  val := fun _ => want2 ds ss
  says := fun _ h => ∃ K : Frag, K.In h ∧ Told2 file fa ds ss K
  of := fun _ _ e => ⟨_, He.frG_in, e⟩
  keeps := fun _ _ _ ⟨K, hK, c⟩ k => ⟨K, PySem.W.Frag.In.keeps hK k, c⟩
def obTA2 (as : List Addr) (file : Str) (fa : List (Frag → Bool)) (ds : List Dd) (ss : List Sd) (s : PySem.W.SharedT) : Ob := see2 file fa ds ss (He.frG (HandSHeadRun.getT s) as)
theorem obTA2_eq {as : List Addr} {file : Str} {fa : List (Frag → Bool)} {ds : List Dd} {ss : List Sd} (s : PySem.W.SharedT) : obTA2 as file fa ds ss s = (hookA2 as file fa ds ss).obs s.abs := by
  have e : HandSHeadRun.getT s = s.abs.heap.get? := funext (HandSHeadRun.getT_eq s)
  show see2 file fa ds ss (He.frG (HandSHeadRun.getT s) as) = see2 file fa ds ss (He.frG s.abs.heap.get? as)
  rw [e]
end Oh

namespace Ox
open PySem PySem.Spec PyProof.Rows L2
def iscB (C : Str) : PySem.W.Frag → Bool := fun K => (He.Fa.cls C).ok K && (He.eqO (PySem.W.findIn K (.ref (He.ga K C)) "__class__") (some (some (.builtin "object.__class__"))) && (He.eqO (PySem.W.specialIn K (.builtin "object.__class__") "__get__") (some (some (.builtin "getset_descriptor.__get__"))) &&
  (decide (PySem.W.takesIn K (.builtin "object.__class__") = some true) && decide (PySem.W.mroIn K (He.ga K C) (.type "object") = some true))))
def kitF (C D : Str) (b : Bool) : PySem.W.Frag → Bool := fun K => decide (PySem.W.kitOne K (.ref (He.ga K C)) (.ref (He.ga K D)) = some b)
abbrev veB : List Value := [.type "ValueError", .type "Exception", .type "BaseException", .type "object"]
def exc0F (x : Str) : PySem.W.Frag → Bool := fun K => PySem.W.excIn K (He.ga K x) veB "ValueError.__new__" && (PySem.W.keepIn K (.ref (He.ga K x)) && (decide (PySem.W.subIn K (.ref (He.ga K x)) (.type "BaseException") = some true) && decide (PySem.W.typeIn K (.ref (He.ga K x)) = some (.type "type"))))
def excCF (x : Str) : PySem.W.Frag → Bool := fun K => xfB K (He.ga K x) && (He.eqO (PySem.W.findIn K (.ref (He.ga K x)) "__class__") (some (some (.builtin "object.__class__"))) && (He.eqO (PySem.W.specialIn K (.builtin "object.__class__") "__get__") (some (some (.builtin "getset_descriptor.__get__"))) &&
  (decide (PySem.W.takesIn K (.builtin "object.__class__") = some true) && decide (PySem.W.mroIn K (He.ga K x) (.type "object") = some true))))
def exmF (C D : Str) (b : Bool) : PySem.W.Frag → Bool := fun K => decide (PySem.W.exmOne K (.ref (He.ga K C)) (.ref (He.ga K D)) = some b)
def kitTF (C : Str) (T : String) (b : Bool) : PySem.W.Frag → Bool := fun K => decide (PySem.W.kitOne K (.ref (He.ga K C)) (.type T) = some b)
def kitAllF (ns : List Str) : PySem.W.Frag → Bool := fun K => ns.zipIdx.all fun p => ns.zipIdx.all fun q => decide (PySem.W.kitOne K (.ref (He.ga K p.1)) (.ref (He.ga K q.1)) = some (decide (p.2 = q.2)))
def kitUpF (ns : List Str) (C : Str) : PySem.W.Frag → Bool := fun K => ns.all fun p => decide (PySem.W.kitOne K (.ref (He.ga K p)) (.ref (He.ga K C)) = some true)
def kitUpTF (ns : List Str) (T : String) : PySem.W.Frag → Bool := fun K => ns.all fun p => decide (PySem.W.kitOne K (.ref (He.ga K p)) (.type T) = some true)
def excAllF (ns : List Str) : PySem.W.Frag → Bool := fun K => ns.all fun p => excCF p K
end Ox
namespace Law
open PySem PySem.Spec PyProof.Rows L2 Ox
def top (i : Nat) : Stmt := PySem.Challenge.pw_ownslips_k10_errors.main.body.getD i (.Pass ⟨0, 0, 0, 0⟩)
abbrev s_pool : Stmt := top 39
abbrev s_draw : Stmt := top 40
abbrev s_word : Stmt := top 41
abbrev s_l_thing : Stmt := top 42
abbrev s_l_made : Stmt := top 43
abbrev s_l_flags : Stmt := top 44
abbrev s_l_kept : Stmt := top 45
abbrev s_l_raised : Stmt := top 46
abbrev s_law : Stmt := top 47
end Law
/-! the head -/
namespace Law
open PySem PySem.Spec PyProof.Rows L2 Ox
def d_law : Oh.Dd := ⟨fun K => He.ga K "law", "law", "law", s_law⟩
def d_pool : Oh.Dd := ⟨fun K => He.ga K "_law_pool", "_law_pool", "_law_pool", s_pool⟩
def d_draw : Oh.Dd := ⟨fun K => He.ga K "_law_draw", "_law_draw", "_law_draw", s_draw⟩
def d_word : Oh.Dd := ⟨fun K => He.ga K "_law_word", "_law_word", "_law_word", s_word⟩
def d_l_thing : Oh.Dd := ⟨fun K => He.ga K "_law_thing", "_law_thing", "_law_thing", s_l_thing⟩
def d_l_made : Oh.Dd := ⟨fun K => He.ga K "_law_made", "_law_made", "_law_made", s_l_made⟩
def d_l_flags : Oh.Dd := ⟨fun K => He.ga K "_law_flags", "_law_flags", "_law_flags", s_l_flags⟩
def d_l_kept : Oh.Dd := ⟨fun K => He.ga K "_law_kept", "_law_kept", "_law_kept", s_l_kept⟩
def d_l_raised : Oh.Dd := ⟨fun K => He.ga K "_law_raised", "_law_raised", "_law_raised", s_l_raised⟩
abbrev ds0 : List Oh.Dd := [d_law, d_pool, d_draw, d_word, d_l_thing, d_l_made, d_l_flags, d_l_kept, d_l_raised]
abbrev dsA : List Oh.Dd := ds0
abbrev fa0 : List (Oh.Frag → Bool) := [Oh.fo (.glo "law"), Oh.fo (.free "range"), Oh.fo (.free "isinstance"), Oh.fo (.free "ValueError"), Oh.fo (.glo "OwnError"), kitUpF ("BadWork" :: "NoStand" :: "NoStep" :: "BadRun" :: "TooMany" :: "BadLog" :: "BadText" :: "NoName" :: "BadLot" :: "BadWish" :: "Unsuited" :: "BadNumber" :: "NoChance" :: "BadFraction" :: "BadRing" :: "BadLooks" :: "BadKnowledge" :: "BadLook" :: "BadHand" :: "NoRun" :: "BadProgram" :: "BadPrograms" :: "TooLarge" :: "Ringed" :: "BadBook" :: "BadPrices" :: "BadFalls" :: "NoEnd" :: "LastStep" :: "NoHand" :: "BadName" :: "BadOrder" :: "NotNow" :: "NoLine" :: "NoBench" :: "NothingDone" :: [] : List Str) "OwnError", kitUpTF ("BadWork" :: "NoStand" :: "NoStep" :: "BadRun" :: "TooMany" :: "BadLog" :: "BadText" :: "NoName" :: "BadLot" :: "BadWish" :: "Unsuited" :: "BadNumber" :: "NoChance" :: "BadFraction" :: "BadRing" :: "BadLooks" :: "BadKnowledge" :: "BadLook" :: "BadHand" :: "NoRun" :: "BadProgram" :: "BadPrograms" :: "TooLarge" :: "Ringed" :: "BadBook" :: "BadPrices" :: "BadFalls" :: "NoEnd" :: "LastStep" :: "NoHand" :: "BadName" :: "BadOrder" :: "NotNow" :: "NoLine" :: "NoBench" :: "NothingDone" :: [] : List Str) "ValueError", excAllF ("BadWork" :: "NoStand" :: "NoStep" :: "BadRun" :: "TooMany" :: "BadLog" :: "BadText" :: "NoName" :: "BadLot" :: "BadWish" :: "Unsuited" :: "BadNumber" :: "NoChance" :: "BadFraction" :: "BadRing" :: "BadLooks" :: "BadKnowledge" :: "BadLook" :: "BadHand" :: "NoRun" :: "BadProgram" :: "BadPrograms" :: "TooLarge" :: "Ringed" :: "BadBook" :: "BadPrices" :: "BadFalls" :: "NoEnd" :: "LastStep" :: "NoHand" :: "BadName" :: "BadOrder" :: "NotNow" :: "NoLine" :: "NoBench" :: "NothingDone" :: [] : List Str), Oh.fo (.free "len"), Oh.fo (.free "int"), Oh.fo (.free "min"), Oh.fo (.glo "_law_pool"), Oh.fo (.glo "_law_draw"), Oh.fo (.glo "_law_word"), Oh.fo (.glo "_law_thing"), Oh.fo (.glo "BadWork"), Oh.fo (.free "super"), Oh.supB "BadWork" "part", Oh.fo (.glo "NoStand"), Oh.supB "NoStand" "name", Oh.fo (.glo "NoStep"), Oh.supB "NoStep" "name", Oh.fo (.glo "BadRun"), Oh.supB "BadRun" "index", Oh.fo (.glo "TooMany"), Oh.supB "TooMany" "most", Oh.fo (.glo "BadLog"), Oh.supB "BadLog" "index", Oh.fo (.glo "BadText"), Oh.supB "BadText" "line"]
abbrev fa1 : List (Oh.Frag → Bool) := [Oh.fo (.glo "NoName"), Oh.supB "NoName" "name", Oh.fo (.glo "BadLot"), exc0F "BadLot", Oh.fo (.glo "BadWish"), exc0F "BadWish", Oh.fo (.glo "Unsuited"), exc0F "Unsuited", Oh.fo (.glo "BadNumber"), exc0F "BadNumber", Oh.fo (.glo "NoChance"), exc0F "NoChance", Oh.fo (.glo "BadFraction"), exc0F "BadFraction", Oh.fo (.glo "BadRing"), exc0F "BadRing", Oh.fo (.glo "BadLooks"), exc0F "BadLooks", Oh.fo (.glo "BadKnowledge"), exc0F "BadKnowledge", Oh.fo (.glo "BadLook"), exc0F "BadLook", Oh.fo (.glo "BadHand"), exc0F "BadHand", Oh.fo (.glo "NoRun"), exc0F "NoRun", Oh.fo (.glo "BadProgram"), exc0F "BadProgram", Oh.fo (.glo "BadPrograms"), exc0F "BadPrograms"]
abbrev fa2 : List (Oh.Frag → Bool) := [Oh.fo (.glo "TooLarge"), exc0F "TooLarge", Oh.fo (.glo "Ringed"), exc0F "Ringed", Oh.fo (.glo "BadBook"), exc0F "BadBook", Oh.fo (.glo "BadPrices"), exc0F "BadPrices", Oh.fo (.glo "BadFalls"), exc0F "BadFalls", Oh.fo (.glo "NoEnd"), exc0F "NoEnd", Oh.fo (.glo "LastStep"), exc0F "LastStep", Oh.fo (.glo "NoHand"), exc0F "NoHand", Oh.fo (.glo "BadName"), exc0F "BadName", Oh.fo (.glo "BadOrder"), exc0F "BadOrder", Oh.fo (.glo "NotNow"), exc0F "NotNow", Oh.fo (.glo "NoLine"), exc0F "NoLine", Oh.fo (.glo "NoBench"), exc0F "NoBench", Oh.fo (.glo "NothingDone"), exc0F "NothingDone", Oh.fo (.glo "_law_made"), kitAllF ("BadWork" :: "NoStand" :: "NoStep" :: "BadRun" :: "TooMany" :: "BadLog" :: "BadText" :: "NoName" :: "BadLot" :: "BadWish" :: "Unsuited" :: "BadNumber" :: "NoChance" :: "BadFraction" :: "BadRing" :: "BadLooks" :: "BadKnowledge" :: "BadLook" :: "BadHand" :: "NoRun" :: "BadProgram" :: "BadPrograms" :: "TooLarge" :: "Ringed" :: "BadBook" :: "BadPrices" :: "BadFalls" :: "NoEnd" :: "LastStep" :: "NoHand" :: "BadName" :: "BadOrder" :: "NotNow" :: "NoLine" :: "NoBench" :: "NothingDone" :: [] : List Str)]
abbrev fa3 : List (Oh.Frag → Bool) := [Oh.fo (.glo "_law_flags"), Oh.fo (.glo "_law_kept"), exmF "BadWork" "OwnError" true, exmF "NoStand" "OwnError" true, exmF "NoStep" "OwnError" true, exmF "BadRun" "OwnError" true, exmF "TooMany" "OwnError" true, exmF "BadLog" "OwnError" true, exmF "BadText" "OwnError" true, exmF "NoName" "OwnError" true, Oh.fo (.glo "_law_raised")]
abbrev faA : List (Oh.Frag → Bool) := fa0 ++ fa1 ++ fa2 ++ fa3
abbrev lo0 : List Str := ["OwnError", "BadWork", "NoStand", "NoStep", "BadRun", "BadLot", "BadWish", "Unsuited", "BadNumber", "NoChance", "BadFraction", "BadRing", "BadLooks", "BadKnowledge", "BadLook", "TooMany", "BadLog", "BadHand", "NoRun", "BadProgram", "BadPrograms", "TooLarge", "Ringed", "BadBook", "BadPrices", "BadFalls", "NoEnd", "LastStep", "NoHand", "BadName"]
abbrev lo1 : List Str := ["BadOrder", "BadText", "NotNow", "NoLine", "NoName", "NoBench", "NothingDone", "_law_pool", "_law_draw", "_law_word", "_law_thing", "_law_made", "_law_flags", "_law_kept", "_law_raised"]
abbrev loA : List Str := lo0 ++ lo1
def u_BadWork : Oh.Sd := ⟨"BadWork", "part", "BadWork.__init__", inClass (top 2) 0⟩
def u_NoStand : Oh.Sd := ⟨"NoStand", "name", "NoStand.__init__", inClass (top 3) 0⟩
def u_NoStep : Oh.Sd := ⟨"NoStep", "name", "NoStep.__init__", inClass (top 4) 0⟩
def u_BadRun : Oh.Sd := ⟨"BadRun", "index", "BadRun.__init__", inClass (top 5) 0⟩
def u_TooMany : Oh.Sd := ⟨"TooMany", "most", "TooMany.__init__", inClass (top 16) 0⟩
def u_BadLog : Oh.Sd := ⟨"BadLog", "index", "BadLog.__init__", inClass (top 17) 0⟩
def u_BadText : Oh.Sd := ⟨"BadText", "line", "BadText.__init__", inClass (top 32) 0⟩
def u_NoName : Oh.Sd := ⟨"NoName", "name", "NoName.__init__", inClass (top 35) 0⟩
abbrev ssA : List Oh.Sd := [u_BadWork, u_NoStand, u_NoStep, u_BadRun, u_TooMany, u_BadLog, u_BadText, u_NoName]
abbrev Rw : PySem.W.OpenRow := PySem.W.OpenLaw.row PySem.Challenge.rw_ownslips_k10_errors
abbrev as0 : List Addr := [2, 1, 3, 6, 4, 24, 46, 67, 88, 109, 121, 133, 145, 157, 169, 181, 193, 205, 217, 229, 250, 271, 283, 295, 307, 319, 331, 343, 355, 367, 379, 391, 403, 415, 427, 439, 460, 472, 484, 505, 517, 529, 538, 545, 552, 559, 566, 573, 580, 587, 592, 0, 23, 45, 66, 87, 108, 120, 132, 144, 156, 168, 180, 192, 204, 216, 228, 249, 270, 282, 294, 306, 318, 330, 342, 354, 366, 378, 390, 402, 414, 426, 438, 459, 471, 483, 504, 516, 528, 537, 544, 551, 558, 565, 572, 579, 586, 591, 22, 25]
abbrev as1 : List Addr := [43, 44, 64, 65, 85, 86, 106, 107, 119, 131, 143, 155, 167, 179, 191, 203, 215, 227, 247, 248, 268, 269, 281, 293, 305, 317, 329, 341, 353, 365, 377, 389, 401, 413, 425, 437, 457, 458, 470, 482, 502, 503, 515, 527, 532, 533, 534, 535, 536, 539, 540, 541, 542, 543, 546, 547, 548, 549, 550, 553, 554, 555, 556, 557, 560, 561, 562, 563, 564, 567, 568, 569, 570, 571, 574, 575, 576, 577, 578, 581, 582, 583, 584, 585, 588, 589, 590, 42, 31, 63, 52, 84, 73, 105, 94, 246, 235, 267, 256, 456]
abbrev as2 : List Addr := [445, 501, 490, 37, 38, 39, 40, 41, 58, 59, 60, 61, 62, 79, 80, 81, 82, 83, 100, 101, 102, 103, 104, 241, 242, 243, 244, 245, 262, 263, 264, 265, 266, 451, 452, 453, 454, 455, 496, 497, 498, 499, 500]
abbrev asA : List Addr := as0 ++ as1 ++ as2
abbrev hk : PySem.W.Hook := Oh.hookA2 asA "/claim/cut.py" faA dsA ssA
def ob (s : PySem.W.SharedT) : Oh.Ob := Oh.obTA2 asA "/claim/cut.py" faA dsA ssA s
theorem ob_eq (s : PySem.W.SharedT) : ob s = hk.obs s.abs := Oh.obTA2_eq s
theorem run (w : World) : HandSHeadRun.RunEq Rw (PySem.W.view Rw.prog [47]) hk ob 12000 loA w := by
  intro os
  kernel_rfl
end Law

/-! Own layer: steps through a reading, one small lemma a construct, so that a tactic can take them by the goal's head. -/
namespace Ox
open PySem PySem.Spec PyProof.Rows L2
/-! ### further operators -/
section
variable {X : Cx}
theorem op_mulA : OpR X (binaryOp .Mult) (rI IntMulOk fun i j => .int (i * j)) := opI fun _ _ _ _ _ _ _ hc q => mul_int q hc
theorem op_fdivA : OpR X (binaryOp .FloorDiv) (rI CDivW fun i j => .int (i / j)) := op_fdivW
def CPowW (i j : Int) : Prop := 0 ≤ j ∧ (Builtin.Int.intBits i : Int) * j ≤ 2 ^ 27
theorem op_powW : OpR X (binaryOp .Pow) (rI CPowW fun i j => .int (i ^ j.toNat)) := opI fun _ _ _ _ _ _ _ hc q => pow_int hc.1 hc.2 q
end
theorem mulok_l {i j : Int} (h1 : -(2 ^ 63) ≤ i) (h2 : i < 2 ^ 63) : IntMulOk i j := CMul.ok (.inl ⟨by omega, by omega⟩)
theorem mulok_r {i j : Int} (h1 : -(2 ^ 63) ≤ j) (h2 : j < 2 ^ 63) : IntMulOk i j := CMul.ok (.inr ⟨by omega, by omega⟩)
theorem divok {i j : Int} (h : 0 < j) (h2 : j < 2 ^ 62) : CDivW i j := wide_div (b := 62) h (by omega) (by decide) (by decide)
/-! ### callees -/
section
variable (P : Program) (w : World) (K : PySem.W.Frag) (mg : Str → Option Value) (base : Heap)
/-- the module's name x is a def of level k that keeps the promise sp -/
structure Cal (k : Nat) (x : Str) (ps : List Str) (sp : Sp) : Prop where
  ex : ∃ f fd, FnOk P w K mg base CX0 k f fd ps sp ∧ mg x = some (.ref f) ∧ PySem.W.keepIn K (.ref f) = true ∧ Binds K fd ps []
/-- the module's name x is the class at C, made by an __init__ of level k -/
structure Mkc (C : Addr) (k : Nat) (x : Str) (ps : List Str) (sp : Sp) : Prop where
  ex : ∃ f fd, Mk K C f ∧ FnOk P w K mg base CX0 k f fd ps sp ∧ mg x = some (.ref C) ∧ Binds K fd ps []
structure Met (C : Addr) (k : Nat) (m : Str) (ps : List Str) (sp : Sp) : Prop where
  ex : ∃ f fd, Meth K C m f ∧ FnOk P w K mg base CX0 k f fd ps sp ∧ Binds K fd ps []
structure Prp (C : Addr) (k : Nat) (m : Str) (sp : Sp) : Prop where
  ex : ∃ p f fd, PropOf K C m p f ∧ FnOk P w K mg base CX0 k f fd ["self"] sp ∧ Binds K fd ["self"] []
end
section
variable {X : Cx} {k : Nat} {x : Str} {ps : List Str} {sp : Sp} {e : Expr} {es : List Expr} {t : TA} {pos p : Pos} {C : Addr} {ta : TE} {m : Str}
theorem pe_cal (c : Cal X.prog X.w X.K X.mg X.base k x ps sp) (hr : Room k X.A) (hg : Gl X x) (ha : PA X (e :: es) t)
    (hs : starEach (e :: es) X.env = (false, eval e X.env) :: starEach es X.env := by rfl) (hp : (backTo pos (starEach es X.env)).any (·.1) = false := by rfl)
    (hdb : (x == ("__debug__" : Str)) = false := by decide) : PE X (.Call (.Name x p) (e :: es) [] pos) (tCall sp [] E0 t) := by
  obtain ⟨f, fd, F, g, kp, b⟩ := c.ex
  exact pe_call F hr hg g kp b .nil pass0 ha hdb hs hp
theorem pe_cal0 (c : Cal X.prog X.w X.K X.mg X.base k x ps sp) (hr : Room k X.A) (hg : Gl X x)
    (hdb : (x == ("__debug__" : Str)) = false := by decide) : PE X (.Call (.Name x p) [] [] pos) (tCall sp [] E0 tNil) := by
  obtain ⟨f, fd, F, g, kp, b⟩ := c.ex
  exact pe_call0 F hr hg g kp b .nil pass0 hdb
theorem pe_mk (c : Mkc X.prog X.w X.K X.mg X.base C k x ps sp) (hr : Room (k + 1) X.A) (hg : Gl X x) (ha : PA X (e :: es) t)
    (hs : starEach (e :: es) X.env = (false, eval e X.env) :: starEach es X.env := by rfl) (hp : (backTo pos (starEach es X.env)).any (·.1) = false := by rfl)
    (hdb : (x == ("__debug__" : Str)) = false := by decide) : PE X (.Call (.Name x p) (e :: es) [] pos) (tMake C sp [] E0 t) := by
  obtain ⟨f, fd, M, F, g, b⟩ := c.ex
  exact pe_make M F hr hg g b .nil pass0 ha hdb hs hp
theorem pe_prp {p' : Expr} (c : Prp X.prog X.w X.K X.mg X.base C k m sp) (kc : Cls X.K C) (hr : Room (k + 1) X.A) (he : PE X p' ta)
    (hab : attributeBase p' m X.env (eval p' X.env) = eval p' X.env := by rfl) : PE X (.Attribute p' m pos) (tProp C sp [] E0 ta) := by
  obtain ⟨q, f, fd, hp, F, b⟩ := c.ex
  exact pe_prop he kc hp F hr b .nil pass0 hab
end
/-! ### steps -/
section
variable {σ : L2.St} {H : Hp} {Q : VK} {i : Nat} {v x y : V} {ta tb te tc : TE} {n : L2.St → Hp → Prop} {r : VK} {b c : L2.St → Hp → Prop} {t u : TS} {tt tu : TT} {R : Bool → Hp → Prop} {K : PySem.W.Frag} {al : TA} {W : List V → Hp → Prop}
theorem x_var (h : σ[i]? = some (some v)) (q : Q v H) : tVar i σ H Q := ⟨v, h, q⟩
theorem x_c (q : Q v H) : tC v σ H Q := q
theorem x_op {o : R2} (q : ta σ H fun x H1 => tb σ H1 fun y H2 => o x y H2 Q) : tOp o ta tb σ H Q := q
theorem x_un {o : V → Hp → VK → Prop} (q : ta σ H fun x H1 => o x H1 Q) : tUn o ta σ H Q := q
theorem x_I0 {g : Int → Int → V} {i j : Int} (q : Q (g i j) H) : rI0 g (.int i) (.int j) H Q := ⟨i, j, rfl, rfl, q⟩
theorem x_I {C : Int → Int → Prop} {g : Int → Int → V} {i j : Int} (hc : C i j) (q : Q (g i j) H) : rI C g (.int i) (.int j) H Q := ⟨i, j, rfl, rfl, hc, q⟩
theorem x_U {g : Int → V} {i : Int} (q : Q (g i) H) : rU g (.int i) H Q := ⟨i, rfl, q⟩
theorem x_eqI {i j : Int} (q : Q (.bl (decide (i = j))) H) : rEq (.int i) (.int j) H Q := ⟨rfl, by rw [show decide (V.int i = V.int j) = decide (i = j) from by simp]; exact q⟩
theorem x_eqS {i j : Str} (q : Q (.bl (decide (i = j))) H) : rEq (.str i) (.str j) H Q := ⟨rfl, by rw [show decide (V.str i = V.str j) = decide (i = j) from by simp]; exact q⟩
theorem x_eqB {i j : Bool} (q : Q (.bl (decide (i = j))) H) : rEq (.bl i) (.bl j) H Q := ⟨rfl, by rw [show decide (V.bl i = V.bl j) = decide (i = j) from by simp]; exact q⟩
theorem x_neI {i j : Int} (q : Q (.bl (!decide (i = j))) H) : rNe (.int i) (.int j) H Q := ⟨rfl, by rw [show decide (V.int i = V.int j) = decide (i = j) from by simp]; exact q⟩
theorem x_neS {i j : Str} (q : Q (.bl (!decide (i = j))) H) : rNe (.str i) (.str j) H Q := ⟨rfl, by rw [show decide (V.str i = V.str j) = decide (i = j) from by simp]; exact q⟩
theorem x_neB {i j : Bool} (q : Q (.bl (!decide (i = j))) H) : rNe (.bl i) (.bl j) H Q := ⟨rfl, by rw [show decide (V.bl i = V.bl j) = decide (i = j) from by simp]; exact q⟩
theorem x_bl {k : Bool} (q : R k H) : ∃ c, V.bl k = V.bl c ∧ R c H := ⟨k, rfl, q⟩
theorem x_test (q : te σ H fun x H1 => ∃ k, x = .bl k ∧ R k H1) : tTest te σ H R := q
theorem x_B (q : te σ H fun x H1 => ∃ k, x = .bl k ∧ R k H1) : tB te σ H R := q
theorem x_not (q : tt σ H fun c H1 => R (!c) H1) : tNot tt σ H R := q
theorem x_and (q : tt σ H fun c H1 => if c = true then tu σ H1 R else R false H1) : tAnd tt tu σ H R := q
theorem x_or (q : tt σ H fun c H1 => if c = true then R true H1 else tu σ H1 R) : tOr tt tu σ H R := q
theorem x_andV (q : ta σ H fun x H1 => ∃ c, x = .bl c ∧ if c = true then tb σ H1 Q else Q (.bl false) H1) : tAndV ta tb σ H Q := q
theorem x_orV (q : ta σ H fun x H1 => ∃ c, x = .bl c ∧ if c = true then Q (.bl true) H1 else tb σ H1 Q) : tOrV ta tb σ H Q := q
theorem x_notV (q : ta σ H fun x H1 => ∃ c, x = .bl c ∧ Q (.bl (!c)) H1) : tNotV ta σ H Q := q
theorem x_blV {k : Bool} {F : Bool → Prop} (q : F k) : ∃ c, V.bl k = V.bl c ∧ F c := ⟨k, rfl, q⟩
theorem x_ifE (q : tt σ H fun c H1 => if c = true then ta σ H1 Q else tb σ H1 Q) : tIf tt ta tb σ H Q := q
theorem x_chain {o o' : R2} (q : ta σ H fun x H1 => tb σ H1 fun y H2 => o x y H2 fun z H3 => ∃ k, z = .bl k ∧ (if k = true then tc σ H3 fun w' H4 => o' y w' H4 Q else Q (.bl false) H3)) : tChain o o' ta tb tc σ H Q := q
theorem x_nil (q : W [] H) : tNil σ H W := q
theorem x_cons {ar : TA} (q : ta σ H fun x H1 => ar σ H1 fun xs H2 => W (x :: xs) H2) : tCons ta ar σ H W := q
theorem x_tup (q : al σ H fun xs H1 => xs.length ≤ sizeLine ∧ ∀ p, H1 p = none → Q (.ref p) (upd H1 p (.tup xs))) : tTup al σ H Q := q
theorem x_lst (q : al σ H fun xs H1 => xs.length ≤ sizeLine ∧ ∀ p, H1 p = none → Q (.ref p) (upd H1 p (.lst xs))) : tLst al σ H Q := q
theorem x_cb {o : List V → Hp → VK → Prop} (q : al σ H fun vs H1 => o vs H1 Q) : tCB o al σ H Q := q
theorem x_call {sp : Sp} {E : XK} (q : al σ H fun vs H1 => sp vs H1 Q E) : tCall sp [] E al σ H Q := by
  show al σ H fun vs H1 => sp (vs ++ []) H1 Q E
  have e : (fun (vs : List V) (H1 : Hp) => sp (vs ++ []) H1 Q E) = fun vs H1 => sp vs H1 Q E := by
    funext vs H1
    rw [List.append_nil]
  rw [e]
  exact q
theorem x_make {C : Addr} {sp : Sp} {E : XK} (q : al σ H fun vs H1 => ∀ x dx, H1 x = none → H1 dx = none → dx ≠ x → sp (.ref x :: vs) (upd (upd H1 dx (.own x)) x (.ins C dx [])) (fun v H2 => v = .non ∧ Q (.ref x) H2) E) : tMake C sp [] E al σ H Q := by
  have e : (fun (vs : List V) (H1 : Hp) => ∀ x dx, H1 x = none → H1 dx = none → dx ≠ x → sp (.ref x :: (vs ++ [])) (upd (upd H1 dx (.own x)) x (.ins C dx [])) (fun v H2 => v = .non ∧ Q (.ref x) H2) E) =
      fun (vs : List V) (H1 : Hp) => ∀ x dx, H1 x = none → H1 dx = none → dx ≠ x → sp (.ref x :: vs) (upd (upd H1 dx (.own x)) x (.ins C dx [])) (fun v H2 => v = .non ∧ Q (.ref x) H2) E := by
    funext vs H1
    rw [List.append_nil]
  show al σ H fun vs H1 => ∀ x dx, H1 x = none → H1 dx = none → dx ≠ x → sp (.ref x :: (vs ++ [])) (upd (upd H1 dx (.own x)) x (.ins C dx [])) (fun v H2 => v = .non ∧ Q (.ref x) H2) E
  rw [e]
  exact q
/-! ### statements -/
theorem x_seq (h : t ⟨u ⟨n, r, b, c⟩, r, b, c⟩ σ H) : tSeq t u ⟨n, r, b, c⟩ σ H := h
theorem x_next (h : n σ H) : tNext ⟨n, r, b, c⟩ σ H := h
theorem x_brk (h : b σ H) : tBreak ⟨n, r, b, c⟩ σ H := h
theorem x_cont (h : c σ H) : tCont ⟨n, r, b, c⟩ σ H := h
theorem x_ret (h : te σ H r) : tRet te ⟨n, r, b, c⟩ σ H := h
theorem x_retN (h : r .non H) : tRetN ⟨n, r, b, c⟩ σ H := h
theorem x_drop (h : te σ H fun _ H1 => n σ H1) : tDrop te ⟨n, r, b, c⟩ σ H := h
theorem x_set (h : te σ H fun v H1 => n (σ.set i (some v)) H1) : tAsg te (gName i) ⟨n, r, b, c⟩ σ H := h
theorem x_if (h : tt σ H fun k H1 => if k = true then t ⟨n, r, b, c⟩ σ H1 else u ⟨n, r, b, c⟩ σ H1) : tIfS tt t u ⟨n, r, b, c⟩ σ H := h
theorem x_nx (h : n σ H) : (Ends.mk n r b c).nx σ H := h
theorem x_par {i j : Nat} (h : al σ H fun vs H1 => ∃ v w, vs = [v, w] ∧ n ((σ.set i (some v)).set j (some w)) H1) : tPar i j al ⟨n, r, b, c⟩ σ H := h
theorem x_par2 {F : V → V → Prop} {v w : V} (h : F v w) : ∃ v' w', [v, w] = [v', w'] ∧ F v' w' := ⟨v, w, rfl, h⟩
theorem x_aug {j : Nat} {tip : TIp} (hx : σ[j]? = some (some x)) (h : te σ H fun y H1 => tip x y H1 fun z H2 => n (σ.set j (some z)) H2) : tAug j te tip ⟨n, r, b, c⟩ σ H := ⟨x, hx, h⟩
theorem x_ipI {f : Int → Int → Int} {i j : Int} (q : Q (.int (f i j)) H) : ipI f (.int i) (.int j) H Q := ⟨i, j, rfl, rfl, q⟩
/-- xs[i] = v -/
theorem x_setL (h : te σ H fun v H0 => ta σ H0 fun o H1 => tb σ H1 fun k H2 => rSetL o k v H2 fun H3 => n σ H3) : tAsg te (gSub ta tb rSetL) ⟨n, r, b, c⟩ σ H := h
theorem x_setl {l : Addr} {xs : List V} {j : Nat} {k : Int} {N : Hp → Prop} (h : H l = some (.lst xs)) (hk : k = (j : Int)) (hj : j < xs.length) (q : N (upd H l (.lst (xs.set j v)))) : rSetL (.ref l) (.int k) v H N :=
  ⟨l, xs, k, j, rfl, rfl, h, by subst hk; unfold ixN; rw [if_pos (by omega), if_pos (by omega)]; simp, q⟩
/-- a test decided -/
theorem x_ite {A B : Prop} {k : Bool} (h1 : k = true → A) (h2 : k = false → B) : if k = true then A else B := by
  cases k with
  | true => exact h1 rfl
  | false =>
    show if false = true then A else B
    rw [if_neg Bool.false_ne_true]
    exact h2 rfl
theorem x_dec {A B p : Prop} [Decidable p] (h1 : p → A) (h2 : ¬ p → B) : if decide p = true then A else B := x_ite (fun e => h1 (of_decide_eq_true e)) fun e => h2 (of_decide_eq_false e)
theorem x_ndec {A B p : Prop} [Decidable p] (h1 : ¬ p → A) (h2 : p → B) : if (!decide p) = true then A else B := x_ite (fun e => h1 (of_decide_eq_false (by simpa using e))) fun e => h2 (of_decide_eq_true (by simpa using e))
theorem x_yes {A B p : Prop} [Decidable p] (hp : p) (h1 : A) : if decide p = true then A else B := x_dec (fun _ => h1) fun z => absurd hp z
theorem x_no {A B p : Prop} [Decidable p] (hp : ¬ p) (h2 : B) : if decide p = true then A else B := x_dec (fun z => absurd z hp) fun _ => h2
theorem x_T {A B : Prop} (h : A) : if true = true then A else B := x_ite (fun _ => h) fun z => by cases z
theorem x_F {A B : Prop} (h : B) : if false = true then A else B := x_ite (fun z => by cases z) fun _ => h
theorem x_nT {A B : Prop} (h : B) : if (!true) = true then A else B := x_F h
theorem x_nF {A B : Prop} (h : A) : if (!false) = true then A else B := x_T h
theorem x_nyes {A B p : Prop} [Decidable p] (hp : p) (h2 : B) : if (!decide p) = true then A else B := x_ndec (fun z => absurd hp z) fun _ => h2
theorem x_nno {A B p : Prop} [Decidable p] (hp : ¬ p) (h1 : A) : if (!decide p) = true then A else B := x_ndec (fun _ => h1) fun z => absurd z hp
/-! ### values of built-ins -/
theorem x_ixL {p : Addr} {xs : List V} {k : Int} (h : SqL K H p xs) (ha : atI xs k = some v) (q : Q v H) : rIxL K (.ref p) (.int k) H Q := ⟨p, xs, k, v, rfl, rfl, h, ha, q⟩
theorem x_ixT {p : Addr} {xs : List V} {k : Int} (h : SqT K H p xs) (ha : atI xs k = some v) (q : Q v H) : rIxT K (.ref p) (.int k) H Q := ⟨p, xs, k, v, rfl, rfl, h, ha, q⟩
theorem x_ixS {z : Str} {k : Int} {d : Nat} (h : z.length ≤ sizeLine) (ha : atI z.cps.toList k = some d) (q : Q (.str ⟨#[d]⟩) H) : rIxS (.str z) (.int k) H Q := ⟨z, k, d, rfl, rfl, h, ha, q⟩
theorem x_bm {T : String} {o : V → List V → Hp → VK → Prop} (q : ta σ H fun x H1 => tyV K T x H1 ∧ al σ H1 fun xs H2 => o x xs H2 Q) : tBM K T o ta al σ H Q := q
theorem x_bm0 {T : String} {o : V → List V → Hp → VK → Prop} (q : ta σ H fun x H1 => tyV K T x H1 ∧ o x [] H1 Q) : tBM0 K T o ta σ H Q := q
theorem x_tyL {p : Addr} {xs : List V} {A : Prop} (h : SqL K H p xs) (q : A) : tyV K "list" (.ref p) H ∧ A := ⟨.inl ⟨rfl, xs, h⟩, q⟩
theorem x_app {l : Addr} {xs : List V} (h : H l = some (.lst xs)) (hl : xs.length < sizeLine) (q : Q .non (upd H l (.lst (xs ++ [y])))) : rAppend (.ref l) [y] H Q := ⟨l, xs, y, rfl, rfl, h, hl, q⟩
theorem x_popAt {l : Addr} {xs : List V} {j : Nat} {k : Int} (h : H l = some (.lst xs)) (hk : k = (j : Int)) (hj : xs[j]? = some y) (hs : xs.length ≤ 10000) (q : Q y (upd H l (.lst (xs.eraseIdx j)))) : rPopAt (.ref l) [.int k] H Q := by
  have hlt : j < xs.length := (List.getElem?_eq_some_iff.mp hj).1
  subst hk
  refine ⟨l, xs, _, j, y, rfl, rfl, h, by omega, by omega, ?_, hj, q⟩
  unfold seqIndex?
  first
    | (rw [if_neg (by omega), if_pos (by omega)]; simp)
    | (simp; omega)
    | (simp [hlt])
end
/-! ### loops, each by a word over turn, slots and heap -/
section
variable {σ : L2.St} {H : Hp} {te : TE} {n : L2.St → Hp → Prop} {r : VK} {b c : L2.St → Hp → Prop} {tb : TS} {g : TG} {K : PySem.W.Frag} {al : TA} {p : Addr}
/-- the loop over what J tells -/
def Lp (J : It) (g : TG) (tb : TS) (D : Ends) (σ : L2.St) (H : Hp) : Prop := ∃ W : Nat → Nat → L2.St → Hp → Prop, (∃ m, W 0 m σ H) ∧ ∀ i m σ H, W i m σ H →
  (J.stop i H ∧ D.nx σ H) ∨ (J.go i H ∧ ∃ N : L2.St → Hp → Prop, (∀ σ' H', N σ' H' → ∃ m', m' < m ∧ W (i + 1) m' σ' H') ∧ ∀ x H', J.yld i H x H' → g x σ H' fun σ2 H2 => tb { D with nx := N, ct := N, bk := D.nx } σ2 H2)
def LpL (K : PySem.W.Frag) (g : TG) (tb : TS) (D : Ends) (σ : L2.St) (x : V) (H : Hp) : Prop := ∃ a, x = .ref a ∧ (∃ xs, SqL K H a xs) ∧ Lp (Itl K a) g tb D σ H
def LpT (K : PySem.W.Frag) (g : TG) (tb : TS) (D : Ends) (σ : L2.St) (x : V) (H : Hp) : Prop := ∃ a, x = .ref a ∧ (∃ xs, SqT K H a xs) ∧ Lp (Itt K a) g tb D σ H
def LpR (g : TG) (tb : TS) (D : Ends) (σ : L2.St) (vs : List V) (H : Hp) : Prop := ∃ j : Int, vs = [.int j] ∧ -(2 ^ 62) ≤ j ∧ j < 2 ^ 62 ∧ Lp (Itr 0 j.toNat) g tb D σ H
def LpR2 (g : TG) (tb : TS) (D : Ends) (σ : L2.St) (vs : List V) (H : Hp) : Prop := ∃ i j : Int, vs = [.int i, .int j] ∧ (-(2 ^ 62) ≤ i ∧ i < 2 ^ 62 ∧ -(2 ^ 62) ≤ j ∧ j < 2 ^ 62) ∧ Lp (Itr i (j - i).toNat) g tb D σ H
def LpS (g : TG) (tb : TS) (D : Ends) (σ : L2.St) (x : V) (H : Hp) : Prop := ∃ z, x = .str z ∧ Lp (Its z) g tb D σ H
def LpK (g : TG) (tb : TS) (D : Ends) (σ : L2.St) (x : V) (H : Hp) : Prop := ∃ d o, x = .ref d ∧ ((∃ kvs, H d = some (.frz o (.dK kvs)) ∧ Lp (Itk d o kvs) g tb D σ H) ∨ ∃ kvs, H d = some (.frz o (.dT kvs)) ∧ Lp (Itkt d o kvs) g tb D σ H)
def LpI (g : TG) (tb : TS) (D : Ends) (σ : L2.St) (x : V) (H : Hp) : Prop := ∃ d o kvs, x = .ref d ∧ H d = some (.frz o (.dK kvs)) ∧ Lp (Iti d o kvs) g tb D σ H
def LpV (g : TG) (tb : TS) (D : Ends) (σ : L2.St) (x : V) (H : Hp) : Prop := ∃ d o kvs, x = .ref d ∧ H d = some (.frz o (.dK kvs)) ∧ Lp (Itd d o kvs) g tb D σ H
theorem x_forL (h : te σ H fun x H1 => LpL K g tb ⟨n, r, b, c⟩ σ x H1) : tFor (iList K te) g tb ⟨n, r, b, c⟩ σ H := h
theorem x_forT (h : te σ H fun x H1 => LpT K g tb ⟨n, r, b, c⟩ σ x H1) : tFor (iTup K te) g tb ⟨n, r, b, c⟩ σ H := h
theorem x_forR (h : al σ H fun x H1 => LpR g tb ⟨n, r, b, c⟩ σ x H1) : tFor (iRng1 al) g tb ⟨n, r, b, c⟩ σ H := h
theorem x_forR2 (h : al σ H fun x H1 => LpR2 g tb ⟨n, r, b, c⟩ σ x H1) : tFor (iRng2 al) g tb ⟨n, r, b, c⟩ σ H := h
theorem x_forS (h : te σ H fun x H1 => LpS g tb ⟨n, r, b, c⟩ σ x H1) : tFor (iStr te) g tb ⟨n, r, b, c⟩ σ H := h
theorem x_forK (h : te σ H fun x H1 => LpK g tb ⟨n, r, b, c⟩ σ x H1) : tFor (iKeys te) g tb ⟨n, r, b, c⟩ σ H := h
theorem x_forI (h : te σ H fun x H1 => LpI g tb ⟨n, r, b, c⟩ σ x H1) : tFor (iItems te) g tb ⟨n, r, b, c⟩ σ H := h
theorem x_forV (h : te σ H fun x H1 => LpV g tb ⟨n, r, b, c⟩ σ x H1) : tFor (iVals te) g tb ⟨n, r, b, c⟩ σ H := h
/-- a name of the loop: the turn stores it -/
theorem lp_by {J : It} {m : Nat} {G : Hp → Prop} {Y : Nat → Hp → V → Hp → Prop} (w : L2.Walk J m G Y) (Pv : Nat → L2.St → Hp → Prop) (h0 : Pv 0 σ H) (hG : ∀ i σ H, i ≤ m → Pv i σ H → G H)
    (hs : ∀ i x σ H H', i < m → Pv i σ H → Y i H x H' → g x σ H' fun σ2 H2 => tb ⟨Pv (i + 1), r, n, Pv (i + 1)⟩ σ2 H2) (hd : ∀ σ H, Pv m σ H → n σ H) : Lp J g tb ⟨n, r, b, c⟩ σ H := L2.for_it w Pv h0 hG hs hd
theorem lpL {xs : List V} (Pv : Nat → L2.St → Hp → Prop) (h : SqL K H p xs) (h0 : Pv 0 σ H) (hG : ∀ i σ H, i ≤ xs.length → Pv i σ H → SqL K H p xs)
    (hs : ∀ i x σ H, xs[i]? = some x → Pv i σ H → g x σ H fun σ2 H2 => tb ⟨Pv (i + 1), r, n, Pv (i + 1)⟩ σ2 H2) (hd : ∀ σ H, Pv xs.length σ H → n σ H) : LpL K g tb ⟨n, r, b, c⟩ σ (.ref p) H :=
  ⟨p, rfl, ⟨xs, h⟩, lp_by walk_list Pv h0 hG (fun i x σ H H' _ hp y => by obtain ⟨rfl, e⟩ := y; exact hs i x σ _ e hp) hd⟩
theorem lpT {xs : List V} (Pv : Nat → L2.St → Hp → Prop) (h : SqT K H p xs) (h0 : Pv 0 σ H) (hG : ∀ i σ H, i ≤ xs.length → Pv i σ H → SqT K H p xs)
    (hs : ∀ i x σ H, xs[i]? = some x → Pv i σ H → g x σ H fun σ2 H2 => tb ⟨Pv (i + 1), r, n, Pv (i + 1)⟩ σ2 H2) (hd : ∀ σ H, Pv xs.length σ H → n σ H) : LpT K g tb ⟨n, r, b, c⟩ σ (.ref p) H :=
  ⟨p, rfl, ⟨xs, h⟩, lp_by walk_tup Pv h0 hG (fun i x σ H H' _ hp y => by obtain ⟨rfl, e⟩ := y; exact hs i x σ _ e hp) hd⟩
theorem lpR {j : Int} (Pv : Nat → L2.St → Hp → Prop) (hj : -(2 ^ 62) ≤ j ∧ j < 2 ^ 62) (h0 : Pv 0 σ H)
    (hs : ∀ i σ H, i < j.toNat → Pv i σ H → g (.int (i : Int)) σ H fun σ2 H2 => tb ⟨Pv (i + 1), r, n, Pv (i + 1)⟩ σ2 H2) (hd : ∀ σ H, Pv j.toNat σ H → n σ H) : LpR g tb ⟨n, r, b, c⟩ σ [.int j] H :=
  ⟨j, rfl, hj.1, hj.2, lp_by walk_range Pv h0 (fun _ _ _ _ _ => trivial) (fun i x σ H H' hi hp y => by
    obtain ⟨rfl, rfl⟩ := y
    dsimp only
    rw [Int.zero_add]
    exact hs i σ _ hi hp) hd⟩
theorem lpR2 {i0 j : Int} (Pv : Nat → L2.St → Hp → Prop) (hj : (-(2 ^ 62) ≤ i0 ∧ i0 < 2 ^ 62 ∧ -(2 ^ 62) ≤ j ∧ j < 2 ^ 62)) (h0 : Pv 0 σ H)
    (hs : ∀ i σ H, i < (j - i0).toNat → Pv i σ H → g (.int (i0 + (i : Int))) σ H fun σ2 H2 => tb ⟨Pv (i + 1), r, n, Pv (i + 1)⟩ σ2 H2) (hd : ∀ σ H, Pv (j - i0).toNat σ H → n σ H) : LpR2 g tb ⟨n, r, b, c⟩ σ [.int i0, .int j] H :=
  ⟨i0, j, rfl, hj, lp_by walk_range Pv h0 (fun _ _ _ _ _ => trivial) (fun i x σ H H' hi hp y => by
    obtain ⟨rfl, rfl⟩ := y
    exact hs i σ _ hi hp) hd⟩
theorem lpS {z : Str} (Pv : Nat → L2.St → Hp → Prop) (h0 : Pv 0 σ H)
    (hs : ∀ i d σ H, z.cps[i]? = some d → Pv i σ H → g (.str ⟨#[d]⟩) σ H fun σ2 H2 => tb ⟨Pv (i + 1), r, n, Pv (i + 1)⟩ σ2 H2) (hd : ∀ σ H, Pv z.cps.size σ H → n σ H) : LpS g tb ⟨n, r, b, c⟩ σ (.str z) H :=
  ⟨z, rfl, lp_by walk_str Pv h0 (fun _ _ _ _ _ => trivial) (fun i x σ H H' hi hp y => by
    obtain ⟨rfl, d, e, rfl⟩ := y
    exact hs i d σ _ e hp) hd⟩
theorem lpK {o : Obj} {kvs : List (Key × V)} (Pv : Nat → L2.St → Hp → Prop) (h : H p = some (.frz o (.dK kvs))) (h0 : Pv 0 σ H) (hG : ∀ i σ H, i ≤ kvs.length → Pv i σ H → H p = some (.frz o (.dK kvs)))
    (hs : ∀ i k v σ H, kvs[i]? = some (k, v) → Pv i σ H → g (kV k) σ H fun σ2 H2 => tb ⟨Pv (i + 1), r, n, Pv (i + 1)⟩ σ2 H2) (hd : ∀ σ H, Pv kvs.length σ H → n σ H) : LpK g tb ⟨n, r, b, c⟩ σ (.ref p) H :=
  ⟨p, o, rfl, .inl ⟨kvs, h, lp_by walk_keys Pv h0 hG (fun i x σ H H' _ hp y => by
    obtain ⟨rfl, k, v, e, rfl⟩ := y
    exact hs i k v σ _ e hp) hd⟩⟩
theorem lpV {o : Obj} {kvs : List (Key × V)} (Pv : Nat → L2.St → Hp → Prop) (h : H p = some (.frz o (.dK kvs))) (h0 : Pv 0 σ H) (hG : ∀ i σ H, i ≤ kvs.length → Pv i σ H → H p = some (.frz o (.dK kvs)))
    (hs : ∀ i k v σ H, kvs[i]? = some (k, v) → Pv i σ H → g v σ H fun σ2 H2 => tb ⟨Pv (i + 1), r, n, Pv (i + 1)⟩ σ2 H2) (hd : ∀ σ H, Pv kvs.length σ H → n σ H) : LpV g tb ⟨n, r, b, c⟩ σ (.ref p) H :=
  ⟨p, o, kvs, rfl, h, lp_by walk_values Pv h0 hG (fun i x σ H H' _ hp y => by
    obtain ⟨rfl, k, e⟩ := y
    exact hs i k x σ _ e hp) hd⟩
/-- the pairs, a new tuple each -/
theorem lpI {o : Obj} {kvs : List (Key × V)} (Pv : Nat → L2.St → Hp → Prop) (h : H p = some (.frz o (.dK kvs))) (h0 : Pv 0 σ H) (hG : ∀ i σ H, i ≤ kvs.length → Pv i σ H → H p = some (.frz o (.dK kvs)))
    (hs : ∀ i k v σ H T, kvs[i]? = some (k, v) → Pv i σ H → H T = none → g (.ref T) σ (upd H T (.tup [kV k, v])) fun σ2 H2 => tb ⟨Pv (i + 1), r, n, Pv (i + 1)⟩ σ2 H2) (hd : ∀ σ H, Pv kvs.length σ H → n σ H) : LpI g tb ⟨n, r, b, c⟩ σ (.ref p) H :=
  ⟨p, o, kvs, rfl, h, lp_by walk_items Pv h0 hG (fun i x σ H H' hi hp y => by
    obtain ⟨T, k, v, rfl, hT, rfl, e1, e2⟩ := y
    dsimp only at e1 e2
    cases e : kvs[i]? with
    | none => rw [e] at e1; cases e1
    | some kv =>
      rw [e] at e1 e2
      have e3 : kV kv.1 = k := Option.some.inj e1
      have e4 : kv.2 = v := Option.some.inj e2
      subst e3 e4
      exact hs i kv.1 kv.2 σ _ T e hp hT) hd⟩
theorem x_g1 {v : V} {i : Nat} {N : L2.St → Hp → Prop} (h : N (σ.set i (some v)) H) : gName i v σ H N := h
theorem x_g2 {T : Addr} {v w : V} {i j : Nat} {N : L2.St → Hp → Prop} (ht : SqT K H T [v, w]) (h : N ((σ.set i (some v)).set j (some w)) H) : gTup K 2 (gCons (gName i) (gCons (gName j) gNil)) (.ref T) σ H N :=
  ⟨T, [v, w], rfl, ht, rfl, v, [w], rfl, w, [], rfl, rfl, h⟩
end
/-! ### heaps: all but one kept -/
def But (p : Addr) (H H' : Hp) : Prop := ∀ b o, H b = some o → b ≠ p → H' b = some o
theorem But.refl {p : Addr} {H : Hp} : But p H H := fun _ _ h _ => h
theorem But.trans {p : Addr} {H H1 H2 : Hp} (a : But p H H1) (b : But p H1 H2) : But p H H2 := fun q o h e => b q o (a q o h e) e
theorem But.at_ {p : Addr} {H H' : Hp} {o : HO} (a : But p H H') : But p H (upd H' p o) := fun q u h e => by rw [upd_ne e]; exact a q u h e
theorem But.new {p q : Addr} {H H' : Hp} {o : HO} (a : But p H H') (h : H' q = none) : But p H (upd H' q o) := fun b u hb e => by
  have h1 := a b u hb e
  rw [upd_ne (ne_of_none h1 h)]
  exact h1
theorem But.of_same {p : Addr} {H H' : Hp} (a : L2.Same H H') : But p H H' := fun b o h _ => a b o h
theorem But.lst {K : PySem.W.Frag} {p q : Addr} {xs : List V} {H H' : Hp} (a : But p H H') (e : q ≠ p) (h : SqL K H q xs) : SqL K H' q xs := by
  rcases h with (h | ⟨o, h⟩) | h
  · exact .inl (.inl (a _ _ h e))
  · exact .inl (.inr ⟨o, a _ _ h e⟩)
  · exact .inr h
theorem ne_old {H : Hp} {a b : Addr} {o : HO} (h' : H b = none) (h : H a = some o) : a ≠ b := ne_of_none h h'
theorem ne_two {H : Hp} {a b : Addr} {o u : HO} (h : H a = some o) (h' : H b = some u) (d : o ≠ u) : a ≠ b := ne_of h h' d
/-! ### named readings of rules (so that a step can be told by its head) -/
def rLenA (K : PySem.W.Frag) : List V → Hp → VK → Prop := fun xs H Q => ∃ x n, xs = [x] ∧ LenV K x H n ∧ Q (.int n) H
def rLenDA : List V → Hp → VK → Prop := fun xs H Q => ∃ a kvs, xs = [V.ref a] ∧ Rd H a (.dK kvs) ∧ Q (.int kvs.length) H
def rIntA : List V → Hp → VK → Prop := fun xs H Q => (∃ i, xs = [.int i] ∧ Q (.int i) H) ∨ ∃ k, xs = [.bl k] ∧ Q (.int (if k then 1 else 0)) H
def rStrIA : List V → Hp → VK → Prop := fun xs H Q => ∃ i, xs = [.int i] ∧ i.natAbs.log2 < 1920 ∧ Q (.str (toString i)) H
def rAbsA : List V → Hp → VK → Prop := fun xs H Q => ∃ i, xs = [.int i] ∧ Q (.int (if i < 0 then -i else i)) H
def rMax2A : List V → Hp → VK → Prop := fun xs H Q => ∃ i j, xs = [.int i, .int j] ∧ Q (.int (if j > i then j else i)) H
def rMin2A : List V → Hp → VK → Prop := fun xs H Q => ∃ i j, xs = [.int i, .int j] ∧ Q (.int (if j < i then j else i)) H
def rListA (K : PySem.W.Frag) : List V → Hp → VK → Prop := fun xs H Q => ∃ p ys, xs = [.ref p] ∧ (SqL K H p ys ∨ SqT K H p ys) ∧ ∀ l, H l = none → Q (.ref l) (upd H l (.lst ys))
def rTupleA (K : PySem.W.Frag) : List V → Hp → VK → Prop := fun xs H Q => ∃ p ys, xs = [.ref p] ∧ ((SqL K H p ys ∧ ∀ l, H l = none → Q (.ref l) (upd H l (.tup ys))) ∨ (SqT K H p ys ∧ Q (.ref p) H))
def rDictA : List V → Hp → VK → Prop := fun xs H Q => ∃ (a : Addr) (kvs : List (Key × V)), xs = [.ref a] ∧ Rd H a (.dK kvs) ∧ ∀ p, H p = none → Q (.ref p) (upd H p (.dK kvs))
def rStr2 (g : Str → Str → Bool) : R2 := fun x y H Q => ∃ i j, x = .str i ∧ y = .str j ∧ Q (.bl (g i j)) H
def rAddSA : R2 := fun x y H Q => ∃ i j, x = .str i ∧ y = .str j ∧ i.length + j.length ≤ sizeLine ∧ Q (.str (i ++ j)) H
def rInSA : R2 := fun x y H Q => ∃ (c : Nat) (z : Str), x = .str ⟨#[c]⟩ ∧ y = .str z ∧ Q (.bl (decide (c ∈ z.cps.toList))) H
def rNinSA : R2 := fun x y H Q => ∃ (c : Nat) (z : Str), x = .str ⟨#[c]⟩ ∧ y = .str z ∧ Q (.bl (!decide (c ∈ z.cps.toList))) H
def rIsNA : R2 := fun x y H Q => y = .non ∧ Q (.bl (decide (x = .non))) H
def rNotNA : R2 := fun x y H Q => y = .non ∧ Q (.bl (!decide (x = .non))) H
section
variable {X : Cx}
theorem call_lenA : CallR X (.builtin "len") (rLenA X.K) := call_len
theorem call_lenDA : CallR X (.builtin "len") rLenDA := by
  intro pins s σ H xs us Q I r h
  obtain ⟨a, kvs, rfl, ha, q⟩ := h
  obtain ⟨u, rfl, ru⟩ := vals1 r
  cases ru
  exact d_len I ha fun t s' I' => ⟨.int kvs.length, H, I', ⟨t, rfl⟩, q⟩
theorem call_intA : CallR X (.type "int") rIntA := call_int1
theorem call_strIA : CallR X (.type "str") rStrIA := call_str_int
theorem call_absA : CallR X (.builtin "abs") rAbsA := call_abs
theorem call_max2A (hc : X.calm = true) : CallR X (.builtin "max") rMax2A := call_max2 hc
theorem call_min2A (hc : X.calm = true) : CallR X (.builtin "min") rMin2A := call_min2 hc
theorem call_listA : CallR X (.type "list") (rListA X.K) := call_list_of
theorem call_tupleA : CallR X (.type "tuple") (rTupleA X.K) := call_tuple_of
theorem call_dictA : CallR X (.type "dict") rDictA := call_dictD
theorem op_ltS : OpR X (compareOp .Lt) (rStr2 fun i j => decide (i.cps.toList < j.cps.toList)) := op_lt_str
theorem op_leS : OpR X (compareOp .LtE) (rStr2 fun i j => !decide (j.cps.toList < i.cps.toList)) := op_le_str
theorem op_gtS : OpR X (compareOp .Gt) (rStr2 fun i j => decide (j.cps.toList < i.cps.toList)) := op_gt_str
theorem op_geS : OpR X (compareOp .GtE) (rStr2 fun i j => !decide (i.cps.toList < j.cps.toList)) := op_ge_str
theorem op_addSA : OpR X (binaryOp .Add) rAddSA := op_add_str
theorem op_inSA : OpR X (compareOp .In) rInSA := op_in_sign
theorem op_ninSA : OpR X (compareOp .NotIn) rNinSA := op_notIn_sign
theorem op_isNA : OpR X (compareOp .Is) rIsNA := op_isN
theorem op_notNA : OpR X (compareOp .IsNot) rNotNA := op_notN
end
section
variable {σ : L2.St} {H : Hp} {Q : VK} {v x y : V} {ta : TE} {K : PySem.W.Frag}
theorem x_lenL {p : Addr} {xs : List V} (h : SqL K H p xs) (q : Q (.int xs.length) H) : rLenA K [V.ref p] H Q := ⟨_, _, rfl, .inl ⟨xs, h, rfl⟩, q⟩
theorem x_lenT {p : Addr} {xs : List V} (h : SqT K H p xs) (q : Q (.int xs.length) H) : rLenA K [V.ref p] H Q := ⟨_, _, rfl, .inr ⟨xs, h, rfl⟩, q⟩
theorem x_lenS {z : Str} (h : z.length ≤ sizeLine) (q : Q (.int z.length) H) : rLenA K [V.str z] H Q := ⟨_, _, rfl, ⟨h, rfl⟩, q⟩
theorem x_lenD {p : Addr} {kvs : List (Key × V)} (h : Rd H p (.dK kvs)) (q : Q (.int kvs.length) H) : rLenDA [V.ref p] H Q := ⟨p, kvs, rfl, h, q⟩
theorem x_intI {i : Int} (q : Q (.int i) H) : rIntA [V.int i] H Q := .inl ⟨i, rfl, q⟩
theorem x_strI {i : Int} (h : i.natAbs.log2 < 1920) (q : Q (.str (toString i)) H) : rStrIA [V.int i] H Q := ⟨i, rfl, h, q⟩
theorem x_abs {i : Int} (q : Q (.int (if i < 0 then -i else i)) H) : rAbsA [V.int i] H Q := ⟨i, rfl, q⟩
theorem x_max2 {i j : Int} (q : Q (.int (if j > i then j else i)) H) : rMax2A [V.int i, V.int j] H Q := ⟨i, j, rfl, q⟩
theorem x_min2 {i j : Int} (q : Q (.int (if j < i then j else i)) H) : rMin2A [V.int i, V.int j] H Q := ⟨i, j, rfl, q⟩
theorem x_str2 {g : Str → Str → Bool} {i j : Str} (q : Q (.bl (g i j)) H) : rStr2 g (.str i) (.str j) H Q := ⟨i, j, rfl, rfl, q⟩
theorem x_addS {i j : Str} (h : i.length + j.length ≤ sizeLine) (q : Q (.str (i ++ j)) H) : rAddSA (.str i) (.str j) H Q := ⟨i, j, rfl, rfl, h, q⟩
theorem x_inS {d : Nat} {z : Str} (q : Q (.bl (decide (d ∈ z.cps.toList))) H) : rInSA (.str ⟨#[d]⟩) (.str z) H Q := ⟨d, z, rfl, rfl, q⟩
theorem x_ninS {d : Nat} {z : Str} (q : Q (.bl (!decide (d ∈ z.cps.toList))) H) : rNinSA (.str ⟨#[d]⟩) (.str z) H Q := ⟨d, z, rfl, rfl, q⟩
theorem x_isN (q : Q (.bl (decide (x = .non))) H) : rIsNA x .non H Q := ⟨rfl, q⟩
theorem x_notN (q : Q (.bl (!decide (x = .non))) H) : rNotNA x .non H Q := ⟨rfl, q⟩
theorem x_listL {p : Addr} {xs : List V} (h : SqL K H p xs) (q : ∀ l, H l = none → Q (.ref l) (upd H l (.lst xs))) : rListA K [V.ref p] H Q := ⟨p, xs, rfl, .inl h, q⟩
theorem x_listT {p : Addr} {xs : List V} (h : SqT K H p xs) (q : ∀ l, H l = none → Q (.ref l) (upd H l (.lst xs))) : rListA K [V.ref p] H Q := ⟨p, xs, rfl, .inr h, q⟩
theorem x_tupL {p : Addr} {xs : List V} (h : SqL K H p xs) (q : ∀ l, H l = none → Q (.ref l) (upd H l (.tup xs))) : rTupleA K [V.ref p] H Q := ⟨p, xs, rfl, .inl ⟨h, q⟩⟩
theorem x_tupT {p : Addr} {xs : List V} (h : SqT K H p xs) (q : Q (.ref p) H) : rTupleA K [V.ref p] H Q := ⟨p, xs, rfl, .inr ⟨h, q⟩⟩
theorem x_dict {p : Addr} {kvs : List (Key × V)} (h : Rd H p (.dK kvs)) (q : ∀ l, H l = none → Q (.ref l) (upd H l (.dK kvs))) : rDictA [V.ref p] H Q := ⟨p, kvs, rfl, h, q⟩
def rFldA (K : PySem.W.Frag) (f : Str) (x : V) (H : Hp) (Q : VK) : Prop := ∃ a C dx fs v, x = .ref a ∧ H a = some (.ins C dx fs) ∧ Cls K C ∧ NoAttr K C f ∧ fs.lookup f = some v ∧ Q v H
theorem x_Fld {f : Str} (q : ta σ H fun x H1 => rFldA K f x H1 Q) : tFld K ta f σ H Q := q
theorem x_fld {a C dx : Addr} {fs : List (Str × V)} {f : Str} (hc : Cls K C) (hn : NoAttr K C f) (h : H a = some (.ins C dx fs)) (hl : fs.lookup f = some v) (q : Q v H) : rFldA K f (.ref a) H Q := ⟨a, C, dx, fs, v, rfl, h, hc, hn, hl, q⟩
end
end Ox
namespace Ox
open PySem PySem.Spec PyProof.Rows L2
theorem divok2 {i j : Int} (h : 0 < j) (h2 : j < 2 ^ 200) : CDivW i j := wide_div (b := 200) h (by omega) (by decide) (by decide)
end Ox
namespace Ox
open PySem PySem.Spec PyProof.Rows L2
section
variable {H : Hp} {Q : VK} {v : V} {K : PySem.W.Frag}
theorem x_ixl {p : Addr} {xs : List V} {k : Int} (j : Nat) (h : SqL K H p xs) (hk : k = (j : Int)) (ha : xs[j]? = some v) (q : Q v H) : rIxL K (.ref p) (.int k) H Q := x_ixL h (at_of hk ha) q
theorem x_ixt {p : Addr} {xs : List V} {k : Int} (j : Nat) (h : SqT K H p xs) (hk : k = (j : Int)) (ha : xs[j]? = some v) (q : Q v H) : rIxT K (.ref p) (.int k) H Q := x_ixT h (at_of hk ha) q
theorem x_ixs {z : Str} {k : Int} {d : Nat} (j : Nat) (h : z.length ≤ sizeLine) (hk : k = (j : Int)) (ha : z.cps.toList[j]? = some d) (q : Q (.str ⟨#[d]⟩) H) : rIxS (.str z) (.int k) H Q :=
  x_ixS h (by subst hk; exact atI_nat ha) q
end
end Ox
namespace Ox
open PySem PySem.Spec PyProof.Rows L2
theorem same_new {H : Hp} {p : Addr} {o : HO} (h : H p = none) : L2.Same H (upd H p o) := fun b u e => by rw [upd_ne (ne_of_none e h)]; exact e
/-- what H does not hold may change -/
theorem same_upd {H H' : Hp} {p : Addr} {o : HO} (s : L2.Same H H') (h : H p = none) : L2.Same H (upd H' p o) := fun b u e => by rw [upd_ne (ne_of_none e h)]; exact s b u e
theorem same_but {p : Addr} {H H1 H2 : Hp} (s : L2.Same H H1) (h : H p = none) (b : But p H1 H2) : L2.Same H H2 := fun q u e => b q u (s q u e) (ne_of_none e h)
theorem same_t {K : PySem.W.Frag} {H H' : Hp} {a : Addr} {xs : List V} (e : L2.Same H H') (h : SqT K H a xs) : SqT K H' a xs := by
  rcases h with (h | ⟨o, h⟩) | h
  · exact .inl (.inl (e _ _ h))
  · exact .inl (.inr ⟨o, e _ _ h⟩)
  · exact .inr h
theorem same_rd {H H' : Hp} {a : Addr} {u : HO} (e : L2.Same H H') (h : Rd H a u) : Rd H' a u := by
  rcases h with h | ⟨o, h⟩
  · exact .inl (e _ _ h)
  · exact .inr ⟨o, e _ _ h⟩
theorem but_rd {p : Addr} {H H' : Hp} {a : Addr} {u : HO} (e : But p H H') (n : a ≠ p) (h : Rd H a u) : Rd H' a u := by
  rcases h with h | ⟨o, h⟩
  · exact .inl (e _ _ h n)
  · exact .inr ⟨o, e _ _ h n⟩
theorem sz_le {n : Nat} (h : n ≤ 10000) : n ≤ sizeLine := Nat.le_trans h (by decide)
theorem sz_lt {n : Nat} (h : n < 10000) : n < sizeLine := Nat.lt_of_lt_of_le h (by decide)
end Ox
namespace Ox
open PySem PySem.Spec PyProof.Rows L2
theorem inV_strs (z : Str) (ws : List Str) : inV (.str z) (ws.map V.str) = decide (z ∈ ws) := by
  unfold inV
  induction ws with
  | nil => simp
  | cons a r ih =>
    rw [List.map_cons, List.any_cons, ih]
    show (a == z || decide (z ∈ r)) = decide (z ∈ a :: r)
    by_cases e : a = z
    · subst e
      simp
    · have e2 : (a == z) = false := by simpa using e
      have e3 : ¬ z = a := fun q => e q.symm
      rw [e2]
      simp [List.mem_cons, e3]
theorem flat_strs (ws : List Str) : (ws.map V.str).all flatV = true := by
  rw [List.all_map]
  exact List.all_eq_true.mpr fun _ _ => rfl
theorem inV_ints (z : Int) (ws : List Int) : inV (.int z) (ws.map V.int) = decide (z ∈ ws) := by
  unfold inV
  induction ws with
  | nil => simp
  | cons a r ih =>
    rw [List.map_cons, List.any_cons, ih]
    show (a == z || decide (z ∈ r)) = decide (z ∈ a :: r)
    by_cases e : a = z
    · subst e
      simp
    · have e2 : (a == z) = false := by simpa using e
      have e3 : ¬ z = a := fun q => e q.symm
      rw [e2]
      simp [List.mem_cons, e3]
theorem flat_ints (ws : List Int) : (ws.map V.int).all flatV = true := by
  rw [List.all_map]
  exact List.all_eq_true.mpr fun _ _ => rfl
section
variable {H : Hp} {Q : VK} {K : PySem.W.Frag} {p : Addr}
theorem x_inL {ws : List Str} {z : Str} (h : SqL K H p (ws.map V.str)) (q : Q (.bl (decide (z ∈ ws))) H) : rIn K false (.str z) (.ref p) H Q :=
  ⟨p, _, rfl, .inl h, rfl, flat_strs ws, by rw [inV_strs]; exact q⟩
theorem x_ninL {ws : List Str} {z : Str} (h : SqL K H p (ws.map V.str)) (q : Q (.bl (!decide (z ∈ ws))) H) : rIn K true (.str z) (.ref p) H Q :=
  ⟨p, _, rfl, .inl h, rfl, flat_strs ws, by rw [inV_strs]; exact q⟩
theorem x_inTs {ws : List Str} {z : Str} (h : SqT K H p (ws.map V.str)) (q : Q (.bl (decide (z ∈ ws))) H) : rIn K false (.str z) (.ref p) H Q :=
  ⟨p, _, rfl, .inr h, rfl, flat_strs ws, by rw [inV_strs]; exact q⟩
theorem x_inTi {ws : List Int} {z : Int} (h : SqT K H p (ws.map V.int)) (q : Q (.bl (decide (z ∈ ws))) H) : rIn K false (.int z) (.ref p) H Q :=
  ⟨p, _, rfl, .inr h, rfl, flat_ints ws, by rw [inV_ints]; exact q⟩
theorem x_ninTi {ws : List Int} {z : Int} (h : SqT K H p (ws.map V.int)) (q : Q (.bl (!decide (z ∈ ws))) H) : rIn K true (.int z) (.ref p) H Q :=
  ⟨p, _, rfl, .inr h, rfl, flat_ints ws, by rw [inV_ints]; exact q⟩
end
end Ox
namespace Ox
open PySem PySem.Spec PyProof.Rows L2
/-! ### comprehensions -/
section
variable {σ : L2.St} {H : Hp} {Q : VK} {te tk tv : TE} {n : L2.St → Hp → Prop} {r : VK} {b c : L2.St → Hp → Prop} {t : TS} {g : TG} {tt : TT} {K : PySem.W.Frag} {al : TA} {p D : Addr} {vs : List Nat} {wi : TI} {Qd : Hp → Prop}
def LcP (J : It) (g : TG) (tt : TT) (te : TE) (vs : List Nat) (σ : L2.St) (D : Addr) (Qd : Hp → Prop) (H1 : Hp) : Prop := ∃ W : Nat → Nat → Hp → Prop, (∃ m, W 0 m (upd H1 D (.lst []))) ∧ ∀ i m H, W i m H →
  (J.stop i H ∧ Qd H) ∨ (J.go i H ∧ ∃ Nx : Hp → Prop, (∀ H', Nx H' → ∃ m', m' < m ∧ W (i + 1) m' H') ∧ ∀ x H', J.yld i H x H' → g x (wipe σ vs) H' fun σ2 H2 => wipe σ2 vs = wipe σ vs ∧ tt σ2 H2 fun b H3 =>
    if b = true then te σ2 H3 fun y H4 => ∃ acc, H4 D = some (.lst acc) ∧ acc.length < sizeLine ∧ Nx (upd H4 D (.lst (acc ++ [y]))) else Nx H3)
def DcP (J : It) (g : TG) (tt : TT) (tk tv : TE) (vs : List Nat) (σ : L2.St) (D : Addr) (Qd : Hp → Prop) (H1 : Hp) : Prop := ∃ W : Nat → Nat → Hp → Prop, (∃ m, W 0 m (upd H1 D (.dK []))) ∧ ∀ i m H, W i m H →
  (J.stop i H ∧ Qd H) ∨ (J.go i H ∧ ∃ Nx : Hp → Prop, (∀ H', Nx H' → ∃ m', m' < m ∧ W (i + 1) m' H') ∧ ∀ x H', J.yld i H x H' → g x (wipe σ vs) H' fun σ2 H2 => wipe σ2 vs = wipe σ vs ∧ tt σ2 H2 fun b H3 =>
    if b = true then tk σ2 H3 fun y H4 => tv σ2 H4 fun z H5 => ∃ kvs k, y = kV k ∧ H5 D = some (.dK kvs) ∧ kvs.length < sizeLine ∧ Nx (upd H5 D (.dK (putK kvs k z))) else Nx H3)
theorem x_lc (h : wi σ H fun J H1 => ∀ D, H1 D = none → LcP J g tt te vs σ D (fun H2 => Q (.ref D) H2) H1) : tLc wi g tt te vs σ H Q := h
theorem x_dc (h : wi σ H fun J H1 => ∀ D, H1 D = none → DcP J g tt tk tv vs σ D (fun H2 => Q (.ref D) H2) H1) : tDc wi g tt tk tv vs σ H Q := h
theorem x_yes1 {R : Bool → Hp → Prop} (h : R true H) : tYes σ H R := h
def RunK (R : It → Hp → Prop) (x : V) (H : Hp) : Prop := ∃ d o, x = .ref d ∧ ((∃ kvs, H d = some (.frz o (.dK kvs)) ∧ R (Itk d o kvs) H) ∨ ∃ kvs, H d = some (.frz o (.dT kvs)) ∧ R (Itkt d o kvs) H)
def RunV (R : It → Hp → Prop) (x : V) (H : Hp) : Prop := ∃ d o kvs, x = .ref d ∧ H d = some (.frz o (.dK kvs)) ∧ R (Itd d o kvs) H
def RunI (R : It → Hp → Prop) (x : V) (H : Hp) : Prop := ∃ d o kvs, x = .ref d ∧ H d = some (.frz o (.dK kvs)) ∧ R (Iti d o kvs) H
def RunL (K : PySem.W.Frag) (R : It → Hp → Prop) (x : V) (H : Hp) : Prop := ∃ a, x = .ref a ∧ (∃ xs, SqL K H a xs) ∧ R (Itl K a) H
def RunT (K : PySem.W.Frag) (R : It → Hp → Prop) (x : V) (H : Hp) : Prop := ∃ a, x = .ref a ∧ (∃ xs, SqT K H a xs) ∧ R (Itt K a) H
def RunS (R : It → Hp → Prop) (x : V) (H : Hp) : Prop := ∃ z, x = .str z ∧ R (Its z) H
def RunR (R : It → Hp → Prop) (vs : List V) (H : Hp) : Prop := ∃ j : Int, vs = [.int j] ∧ -(2 ^ 62) ≤ j ∧ j < 2 ^ 62 ∧ R (Itr 0 j.toNat) H
theorem x_iK {R : It → Hp → Prop} (h : te σ H fun x H1 => RunK R x H1) : iKeys te σ H R := h
theorem x_iV {R : It → Hp → Prop} (h : te σ H fun x H1 => RunV R x H1) : iVals te σ H R := h
theorem x_iI {R : It → Hp → Prop} (h : te σ H fun x H1 => RunI R x H1) : iItems te σ H R := h
theorem x_iL {R : It → Hp → Prop} (h : te σ H fun x H1 => RunL K R x H1) : iList K te σ H R := h
theorem x_iT {R : It → Hp → Prop} (h : te σ H fun x H1 => RunT K R x H1) : iTup K te σ H R := h
theorem x_iS {R : It → Hp → Prop} (h : te σ H fun x H1 => RunS R x H1) : iStr te σ H R := h
theorem x_iR {R : It → Hp → Prop} (h : al σ H fun x H1 => RunR R x H1) : iRng1 al σ H R := h
theorem runK {R : It → Hp → Prop} {o : Obj} {kvs : List (Key × V)} (h : H p = some (.frz o (.dK kvs))) (q : R (Itk p o kvs) H) : RunK R (.ref p) H := ⟨p, o, rfl, .inl ⟨kvs, h, q⟩⟩
theorem runV {R : It → Hp → Prop} {o : Obj} {kvs : List (Key × V)} (h : H p = some (.frz o (.dK kvs))) (q : R (Itd p o kvs) H) : RunV R (.ref p) H := ⟨p, o, kvs, rfl, h, q⟩
theorem runI {R : It → Hp → Prop} {o : Obj} {kvs : List (Key × V)} (h : H p = some (.frz o (.dK kvs))) (q : R (Iti p o kvs) H) : RunI R (.ref p) H := ⟨p, o, kvs, rfl, h, q⟩
theorem runL {R : It → Hp → Prop} {xs : List V} (h : SqL K H p xs) (q : R (Itl K p) H) : RunL K R (.ref p) H := ⟨p, rfl, ⟨xs, h⟩, q⟩
theorem runT {R : It → Hp → Prop} {xs : List V} (h : SqT K H p xs) (q : R (Itt K p) H) : RunT K R (.ref p) H := ⟨p, rfl, ⟨xs, h⟩, q⟩
theorem runR {R : It → Hp → Prop} {j : Int} (h : -(2 ^ 62) ≤ j ∧ j < 2 ^ 62) (q : R (Itr 0 j.toNat) H) : RunR R [.int j] H := ⟨j, rfl, h.1, h.2, q⟩
theorem lc_by {J : It} {m : Nat} {G : Hp → Prop} {Y : Nat → Hp → V → Hp → Prop} (w : L2.Walk J m G Y) (Pv : Nat → Hp → Prop) (h0 : Pv 0 (upd H D (.lst []))) (hG : ∀ i H, i ≤ m → Pv i H → G H)
    (hs : ∀ i x H H', i < m → Pv i H → Y i H x H' → g x (wipe σ vs) H' fun σ2 H2 => wipe σ2 vs = wipe σ vs ∧ tt σ2 H2 fun b H3 =>
      if b = true then te σ2 H3 fun y H4 => ∃ acc, H4 D = some (.lst acc) ∧ acc.length < sizeLine ∧ Pv (i + 1) (upd H4 D (.lst (acc ++ [y]))) else Pv (i + 1) H3) (hd : ∀ H, Pv m H → Qd H) : LcP J g tt te vs σ D Qd H := L2.lc_it w Pv h0 hG hs hd
theorem dc_by {J : It} {m : Nat} {G : Hp → Prop} {Y : Nat → Hp → V → Hp → Prop} (w : L2.Walk J m G Y) (Pv : Nat → Hp → Prop) (h0 : Pv 0 (upd H D (.dK []))) (hG : ∀ i H, i ≤ m → Pv i H → G H)
    (hs : ∀ i x H H', i < m → Pv i H → Y i H x H' → g x (wipe σ vs) H' fun σ2 H2 => wipe σ2 vs = wipe σ vs ∧ tt σ2 H2 fun b H3 =>
      if b = true then tk σ2 H3 fun y H4 => tv σ2 H4 fun z H5 => ∃ kvs k, y = kV k ∧ H5 D = some (.dK kvs) ∧ kvs.length < sizeLine ∧ Pv (i + 1) (upd H5 D (.dK (putK kvs k z))) else Pv (i + 1) H3) (hd : ∀ H, Pv m H → Qd H) : DcP J g tt tk tv vs σ D Qd H := by
  refine ⟨fun i k H => k = m - i ∧ i ≤ m ∧ Pv i H, ⟨m, by simp, Nat.zero_le _, h0⟩, ?_⟩
  rintro i k H ⟨rfl, hi, hp⟩
  have q := hG i H hi hp
  by_cases hlt : i < m
  · exact .inr ⟨w.goes i H hlt q, Pv (i + 1), fun H' p' => ⟨m - (i + 1), by omega, rfl, hlt, p'⟩, fun x H' y => hs i x H H' hlt hp (w.yields i H x H' hlt q y)⟩
  · have e : i = m := by omega
    subst e
    exact .inl ⟨w.stops H q, hd H hp⟩
theorem lcK {o : Obj} {kvs : List (Key × V)} (Pv : Nat → Hp → Prop) (h0 : Pv 0 (upd H D (.lst []))) (hG : ∀ i H, i ≤ kvs.length → Pv i H → H p = some (.frz o (.dK kvs)))
    (hs : ∀ i k v H, kvs[i]? = some (k, v) → Pv i H → g (kV k) (wipe σ vs) H fun σ2 H2 => wipe σ2 vs = wipe σ vs ∧ tt σ2 H2 fun b H3 =>
      if b = true then te σ2 H3 fun y H4 => ∃ acc, H4 D = some (.lst acc) ∧ acc.length < sizeLine ∧ Pv (i + 1) (upd H4 D (.lst (acc ++ [y]))) else Pv (i + 1) H3) (hd : ∀ H, Pv kvs.length H → Qd H) : LcP (Itk p o kvs) g tt te vs σ D Qd H :=
  lc_by walk_keys Pv h0 hG (fun i x H H' _ hp y => by obtain ⟨rfl, k, v, e, rfl⟩ := y; exact hs i k v _ e hp) hd
theorem lcL {xs : List V} (Pv : Nat → Hp → Prop) (h0 : Pv 0 (upd H D (.lst []))) (hG : ∀ i H, i ≤ xs.length → Pv i H → SqL K H p xs)
    (hs : ∀ i x H, xs[i]? = some x → Pv i H → g x (wipe σ vs) H fun σ2 H2 => wipe σ2 vs = wipe σ vs ∧ tt σ2 H2 fun b H3 =>
      if b = true then te σ2 H3 fun y H4 => ∃ acc, H4 D = some (.lst acc) ∧ acc.length < sizeLine ∧ Pv (i + 1) (upd H4 D (.lst (acc ++ [y]))) else Pv (i + 1) H3) (hd : ∀ H, Pv xs.length H → Qd H) : LcP (Itl K p) g tt te vs σ D Qd H :=
  lc_by walk_list Pv h0 hG (fun i x H H' _ hp y => by obtain ⟨rfl, e⟩ := y; exact hs i x _ e hp) hd
theorem lcT {xs : List V} (Pv : Nat → Hp → Prop) (h0 : Pv 0 (upd H D (.lst []))) (hG : ∀ i H, i ≤ xs.length → Pv i H → SqT K H p xs)
    (hs : ∀ i x H, xs[i]? = some x → Pv i H → g x (wipe σ vs) H fun σ2 H2 => wipe σ2 vs = wipe σ vs ∧ tt σ2 H2 fun b H3 =>
      if b = true then te σ2 H3 fun y H4 => ∃ acc, H4 D = some (.lst acc) ∧ acc.length < sizeLine ∧ Pv (i + 1) (upd H4 D (.lst (acc ++ [y]))) else Pv (i + 1) H3) (hd : ∀ H, Pv xs.length H → Qd H) : LcP (Itt K p) g tt te vs σ D Qd H :=
  lc_by walk_tup Pv h0 hG (fun i x H H' _ hp y => by obtain ⟨rfl, e⟩ := y; exact hs i x _ e hp) hd
theorem dcK {o : Obj} {kvs : List (Key × V)} (Pv : Nat → Hp → Prop) (h0 : Pv 0 (upd H D (.dK []))) (hG : ∀ i H, i ≤ kvs.length → Pv i H → H p = some (.frz o (.dK kvs)))
    (hs : ∀ i k v H, kvs[i]? = some (k, v) → Pv i H → g (kV k) (wipe σ vs) H fun σ2 H2 => wipe σ2 vs = wipe σ vs ∧ tt σ2 H2 fun b H3 =>
      if b = true then tk σ2 H3 fun y H4 => tv σ2 H4 fun z H5 => ∃ kvs k, y = kV k ∧ H5 D = some (.dK kvs) ∧ kvs.length < sizeLine ∧ Pv (i + 1) (upd H5 D (.dK (putK kvs k z))) else Pv (i + 1) H3) (hd : ∀ H, Pv kvs.length H → Qd H) : DcP (Itk p o kvs) g tt tk tv vs σ D Qd H :=
  dc_by walk_keys Pv h0 hG (fun i x H H' _ hp y => by obtain ⟨rfl, k, v, e, rfl⟩ := y; exact hs i k v _ e hp) hd
theorem dcL {xs : List V} (Pv : Nat → Hp → Prop) (h0 : Pv 0 (upd H D (.dK []))) (hG : ∀ i H, i ≤ xs.length → Pv i H → SqL K H p xs)
    (hs : ∀ i x H, xs[i]? = some x → Pv i H → g x (wipe σ vs) H fun σ2 H2 => wipe σ2 vs = wipe σ vs ∧ tt σ2 H2 fun b H3 =>
      if b = true then tk σ2 H3 fun y H4 => tv σ2 H4 fun z H5 => ∃ kvs k, y = kV k ∧ H5 D = some (.dK kvs) ∧ kvs.length < sizeLine ∧ Pv (i + 1) (upd H5 D (.dK (putK kvs k z))) else Pv (i + 1) H3) (hd : ∀ H, Pv xs.length H → Qd H) : DcP (Itl K p) g tt tk tv vs σ D Qd H :=
  dc_by walk_list Pv h0 hG (fun i x H H' _ hp y => by obtain ⟨rfl, e⟩ := y; exact hs i x _ e hp) hd
theorem dcI {o : Obj} {kvs : List (Key × V)} (Pv : Nat → Hp → Prop) (h0 : Pv 0 (upd H D (.dK []))) (hG : ∀ i H, i ≤ kvs.length → Pv i H → H p = some (.frz o (.dK kvs)))
    (hs : ∀ i k v H T, kvs[i]? = some (k, v) → Pv i H → H T = none → g (.ref T) (wipe σ vs) (upd H T (.tup [kV k, v])) fun σ2 H2 => wipe σ2 vs = wipe σ vs ∧ tt σ2 H2 fun b H3 =>
      if b = true then tk σ2 H3 fun y H4 => tv σ2 H4 fun z H5 => ∃ kvs k, y = kV k ∧ H5 D = some (.dK kvs) ∧ kvs.length < sizeLine ∧ Pv (i + 1) (upd H5 D (.dK (putK kvs k z))) else Pv (i + 1) H3) (hd : ∀ H, Pv kvs.length H → Qd H) : DcP (Iti p o kvs) g tt tk tv vs σ D Qd H :=
  dc_by walk_items Pv h0 hG (fun i x H H' _ hp y => by
    obtain ⟨T, k, v, rfl, hT, rfl, e1, e2⟩ := y
    dsimp only at e1 e2
    cases e : kvs[i]? with
    | none => rw [e] at e1; cases e1
    | some kv =>
      rw [e] at e1 e2
      have e3 : kV kv.1 = k := Option.some.inj e1
      have e4 : kv.2 = v := Option.some.inj e2
      subst e3 e4
      exact hs i kv.1 kv.2 _ T e hp hT) hd
/-- a dict is held while it is walked -/
theorem x_lock {d : Addr} {u : HO} (h : H d = some u) (hm : Mut (some u)) (q : ∀ od, t ⟨fun σ' H' => H' d = some (.frz od u) ∧ n σ' (upd H' d u), fun v H' => H' d = some (.frz od u) ∧ r v (upd H' d u), fun σ' H' => H' d = some (.frz od u) ∧ b σ' (upd H' d u), fun σ' H' => H' d = some (.frz od u) ∧ c σ' (upd H' d u)⟩ σ (upd H d (.frz od u))) :
    tLock t ⟨n, r, b, c⟩ σ H := ⟨d, u, h, hm, q⟩
theorem x_lockE {d : Addr} {u : HO} (h : H d = some u) (hm : Mut (some u)) (q : ∀ od, te σ (upd H d (.frz od u)) fun v H' => H' d = some (.frz od u) ∧ Q v (upd H' d u)) : tLockE te σ H Q := ⟨d, u, h, hm, q⟩
/-! ### dicts -/
def rGetA (x y : V) (H : Hp) (Q : VK) : Prop := ∃ a v, x = .ref a ∧ DGet H a y (some v) ∧ Q v H
def rDinA (y x : V) (H : Hp) (Q : VK) : Prop := ∃ a o, x = .ref a ∧ DGet H a y o ∧ Q (.bl o.isSome) H
def rDninA (y x : V) (H : Hp) (Q : VK) : Prop := ∃ a o, x = .ref a ∧ DGet H a y o ∧ Q (.bl (!o.isSome)) H
def rDputA (x y v : V) (H : Hp) (N : Hp → Prop) : Prop := ∃ a H4, x = .ref a ∧ DPut H a y v H4 ∧ N H4
variable {td ty : TE} {x y v : V}
theorem x_dget (h : td σ H fun x H1 => ty σ H1 fun y H2 => rGetA x y H2 Q) : tDGet td ty σ H Q := h
theorem x_din (h : ty σ H fun y H1 => td σ H1 fun x H2 => rDinA y x H2 Q) : tDIn ty td σ H Q := h
theorem x_dnin (h : ty σ H fun y H1 => td σ H1 fun x H2 => rDninA y x H2 Q) : tDNotIn ty td σ H Q := h
theorem x_dput (h : tv σ H fun v H1 => td σ H1 fun x H2 => ty σ H2 fun y H3 => rDputA x y v H3 fun H4 => n σ H4) : sDPut td ty tv ⟨n, r, b, c⟩ σ H := h
theorem x_getS {kvs : List (Key × V)} {z : Str} (h : Rd H p (.dK kvs)) (e : valV kvs (Sum.inr z : Key) = some v) (q : Q v H) : rGetA (.ref p) (.str z) H Q := ⟨p, v, rfl, .inl ⟨kvs, Sum.inr z, h, rfl, e.symm⟩, q⟩
theorem x_dinS {kvs : List (Key × V)} {z : Str} (h : Rd H p (.dK kvs)) (q : Q (.bl (valV kvs (Sum.inr z : Key)).isSome) H) : rDinA (.str z) (.ref p) H Q := ⟨p, _, rfl, .inl ⟨kvs, Sum.inr z, h, rfl, rfl⟩, q⟩
theorem x_dninS {kvs : List (Key × V)} {z : Str} (h : Rd H p (.dK kvs)) (q : Q (.bl (!(valV kvs (Sum.inr z : Key)).isSome)) H) : rDninA (.str z) (.ref p) H Q := ⟨p, _, rfl, .inl ⟨kvs, Sum.inr z, h, rfl, rfl⟩, q⟩
theorem x_putS {kvs : List (Key × V)} {z : Str} {N : Hp → Prop} (h : H p = some (.dK kvs)) (hl : kvs.length < sizeLine) (q : N (upd H p (.dK (putK kvs (Sum.inr z : Key) v)))) : rDputA (.ref p) (.str z) v H N :=
  ⟨p, _, rfl, .inl ⟨kvs, Sum.inr z, h, rfl, hl, rfl⟩, q⟩
theorem x_newK (h : ∀ p, H p = none → Q (.ref p) (upd H p (.dK []))) : tDNewK σ H Q := h
end
end Ox
namespace Ox
open PySem PySem.Spec PyProof.Rows L2
theorem valV_at {kvs : List (Key × V)} (hn : (kvs.map (·.1)).Nodup) {i : Nat} {k : Key} {v : V} (h : kvs[i]? = some (k, v)) : valV kvs k = some v := by
  induction kvs generalizing i with
  | nil => cases h
  | cons p r ih =>
    have hn2 : (p.1 :: r.map (·.1)).Nodup := hn
    obtain ⟨h1, h2⟩ := List.nodup_cons.mp hn2
    unfold valV
    rw [List.find?_cons]
    cases i with
    | zero =>
      have e : p = (k, v) := Option.some.inj h
      subst e
      simp
    | succ i =>
      have h3 : r[i]? = some (k, v) := h
      have ne : ¬ p.1 = k := fun e => h1 (by rw [e]; exact List.mem_map.mpr ⟨(k, v), List.mem_of_getElem? h3, rfl⟩)
      rw [decide_eq_false ne]
      exact ih h2 h3
theorem valV_mem {kvs : List (Key × V)} {k : Key} {v : V} (h : valV kvs k = some v) : (k, v) ∈ kvs := by
  unfold valV at h
  cases e : kvs.find? (fun kv => decide (kv.1 = k)) with
  | none => rw [e] at h; cases h
  | some p =>
    rw [e] at h
    have h1 : p.2 = v := Option.some.inj h
    have h2 := List.find?_some e
    have h3 : p.1 = k := of_decide_eq_true h2
    rw [← h1, ← h3]
    exact List.mem_of_find?_eq_some e
/-- a dict with text keys -/
abbrev strK {α : Type} (f : α → V) (l : List (Str × α)) : List (Key × V) := l.map fun p => (Sum.inr p.1, f p.2)
theorem strK_at {α : Type} {f : α → V} {l : List (Str × α)} {i : Nat} {k : Key} {v : V} (h : (strK f l)[i]? = some (k, v)) : ∃ z x, k = Sum.inr z ∧ v = f x ∧ l[i]? = some (z, x) := by
  rw [List.getElem?_map] at h
  cases e : l[i]? with
  | none => rw [e] at h; cases h
  | some p =>
    rw [e] at h
    have e1 : ((Sum.inr p.1 : Key), f p.2) = (k, v) := Option.some.inj h
    injection e1 with e2 e3
    exact ⟨p.1, p.2, e2.symm, e3.symm, rfl⟩
theorem strK_nd {α : Type} {f : α → V} {l : List (Str × α)} (h : (l.map (·.1)).Nodup) : ((strK f l).map (·.1)).Nodup := by
  rw [List.map_map]
  have e : ((fun x : Key × V => x.1) ∘ fun p : Str × α => ((Sum.inr p.1 : Key), f p.2)) = (fun p : Str × α => (Sum.inr p.1 : Key)) := rfl
  rw [e]
  have e2 : l.map (fun p : Str × α => (Sum.inr p.1 : Key)) = (l.map (·.1)).map Sum.inr := by rw [List.map_map]; rfl
  rw [e2]
  exact List.pairwise_map.mpr (List.Pairwise.imp (fun {a b} hab e => hab (Sum.inr.inj e)) h)
theorem strK_val {α : Type} {f : α → V} {l : List (Str × α)} (h : (l.map (·.1)).Nodup) {i : Nat} {z : Str} {x : α} (e : l[i]? = some (z, x)) : valV (strK f l) (Sum.inr z : Key) = some (f x) :=
  valV_at (strK_nd h) (i := i) (by rw [List.getElem?_map, e]; rfl)
theorem strK_get {α : Type} {f : α → V} {l : List (Str × α)} {z : Str} {v : V} (h : valV (strK f l) (Sum.inr z : Key) = some v) : ∃ x, v = f x ∧ (z, x) ∈ l := by
  obtain ⟨p, hp, e⟩ := List.mem_map.mp (valV_mem h)
  injection e with e1 e2
  injection e1 with e3
  exact ⟨p.2, e2.symm, by rw [← e3]; exact hp⟩
theorem take_succ_get {α : Type} {l : List α} {i : Nat} {x : α} (h : l[i]? = some x) : l.take (i + 1) = l.take i ++ [x] := by
  rw [List.take_succ, h]
  rfl
end Ox
namespace Ox
open PySem PySem.Spec PyProof.Rows L2
/-- sorted(d), d a dict with text keys, of any length that fits the line -/
def rSortDA : List V → Hp → VK → Prop := fun xs H Q => ∃ (d : Addr) (kvs : List (Key × V)) (ks : List Str), xs = [.ref d] ∧ Rd H d (.dK kvs) ∧ kvs.map (·.1) = ks.map Sum.inr ∧ ks.length ≤ 10000 ∧
  ∀ ys p, ys.Perm ks → sortedS ys = true → H p = none → Q (.ref p) (upd H p (.lst (ys.map V.str)))
theorem call_sortedDA {X : Cx} (calm : X.calm = true) : CallR X (.builtin "sorted") rSortDA := by
  intro pn st σ H args us Q I ra hq
  obtain ⟨d, kvs, ks, rfl, rd, ek, len, fin⟩ := hq
  obtain ⟨ud, rfl, rud⟩ := vals1 ra
  cases rud
  obtain ⟨_, low, rows, rowsR, isd⟩ := dk_rd I.hok rd
  obtain ⟨epoch, atd⟩ := isd.dictAt
  have keyE : rows.map Prod.fst = ks.map Sum.inr := Eq.trans rowsR.keys.symm ek
  have lenE : rows.length = ks.length := by
    have t := congrArg List.length keyE
    simpa using t
  have line : ks.length ≤ sizeLine := by rw [sizeLine_eq]; omega
  refine Calls.call_function_entry kind_sorted plain_sorted entry_sorted (args_sorted1 _) ?_
  unfold Builtin.«sorted»
  refine wpAny_bind (m := checkCount "sorted" 1 1 _) (wpAny_pure (wpAny_bind (PySem.W.kdu_collect (A := X.A.in1) (PySem.W.kdl_dict (knd := mixKind X.prog X.w) (kvs := rows) (ep := epoch) low) (I.ok.hd calm) atd (by rw [lenE]; exact line) fun h1 t1 got keep isgot => ?_)))
  have gotL : got.toList.length = ks.length := (Array.length_toList ..).trans (isgot.1.trans lenE)
  have texts : StrsAre got.toList ks := strs_at gotL fun j v ev => by
    obtain ⟨key, _, er, ki⟩ := isgot.2 j v (by rw [← Array.getElem?_toList]; exact ev)
    have ekj : (ks.map Sum.inr)[j]? = some key := by rw [← keyE, List.getElem?_map, er]; rfl
    rw [List.getElem?_map] at ekj
    cases ez : ks[j]? with
    | none => rw [ez] at ekj; cases ekj
    | some z =>
      rw [ez] at ekj
      cases ekj
      obtain ⟨t, et⟩ := Value.isStrOf_shape (x := z) (v := v) ki
      exact ⟨z, t, rfl, et⟩
  have J : Inv X pn σ H { st with heap := h1, toks := t1 } := I.kept keep
  refine wpAny_bind (wpAny_newList ?_ (by rw [gotL]; rw [sizeLine_eq] at line; exact line))
  have isl : (h1.push (seqObj "list" got.toList.toArray 0)).get? h1.objs.size = some (seqObj "list" got.toList.toArray 0) := Heap.get?_push_size _ rfl
  change wpAny _ _ _ _ _ { st with heap := h1.push (seqObj "list" got.toList.toArray 0), toks := t1 }
  refine wpAny_bind (wpAny_holding (wpAny_call_entry slot_list_sort ⟨_, isl, rfl⟩ entry_list_sort (list_sort_treeKAny (s := { st with heap := h1.push (seqObj "list" got.toList.toArray 0), toks := t1 }) strKind_oneLt isl texts.keysOf
    (fun a b c eq => keyKind_strs (by rw [← eq]; exact texts)) (by rw [gotL]; exact line) fun st2 pm so => ⟨_, rfl, ?_⟩) (args_list_sort _)))
  obtain ⟨ys, y1, y2, y3⟩ := sorted_out_str texts pm so
  obtain ⟨ep2, at2⟩ := sortedHeap_at (vs := got.toList) (out := (arrOf st2).map (·.2)) isl
  have ylen : (ys.map V.str).length ≤ sizeLine := by rw [List.length_map, y2.length_eq]; exact line
  have laid := fun kept => J.laid (t' := t1) kept (Nat.le_refl h1.objs.size) (show ObjOk X.prog X.w _ _ _ (.lst (ys.map V.str)) from ⟨ylen, ((arrOf st2).map (·.2)).toList, ep2, vals_of_strs y1, by rw [Array.toArray_toList]; exact at2⟩)
  refine wpAny_pure ⟨_, rfl, .ref h1.objs.size, _, laid fun b u eb => ?_, rfl, fin ys _ y2 y3 (J.hok.fresh (Nat.le_refl _))⟩
  have small := Heap.lt_size eb
  rw [sortedHeap_old (Nat.ne_of_lt small) (by rw [size_push']; exact Nat.lt_succ_of_lt small)]
  exact Heap.get?_push_of_some _ eb
theorem lt_one (a b : Nat) : (([a] : List Nat) < [b]) ↔ a < b := by
  rw [List.cons_lt_cons_iff]
  simp
section
variable {H : Hp} {Q : VK} {d : Nat} {s : Str}
theorem x_leL (c : Nat) (e : s = ⟨#[c]⟩) (q : Q (.bl (decide (c ≤ d))) H) : rStr2 (fun i j => !decide (j.cps.toList < i.cps.toList)) (.str s) (.str ⟨#[d]⟩) H Q := by
  subst e
  refine ⟨_, _, rfl, rfl, ?_⟩
  have h : (!decide ((⟨#[d]⟩ : Str).cps.toList < (⟨#[c]⟩ : Str).cps.toList)) = decide (c ≤ d) := by
    show (!decide ([d] < [c])) = _
    rw [show decide (([d] : List Nat) < [c]) = decide (d < c) from decide_eq_decide.mpr (lt_one d c)]
    by_cases z : d < c
    · have : ¬ c ≤ d := by omega
      simp [z, this]
    · have : c ≤ d := by omega
      simp [z, this]
  dsimp only
  rw [h]
  exact q
theorem x_leR (c : Nat) (e : s = ⟨#[c]⟩) (q : Q (.bl (decide (d ≤ c))) H) : rStr2 (fun i j => !decide (j.cps.toList < i.cps.toList)) (.str ⟨#[d]⟩) (.str s) H Q := by
  subst e
  refine ⟨_, _, rfl, rfl, ?_⟩
  have h : (!decide ((⟨#[c]⟩ : Str).cps.toList < (⟨#[d]⟩ : Str).cps.toList)) = decide (d ≤ c) := by
    show (!decide ([c] < [d])) = _
    rw [show decide (([c] : List Nat) < [d]) = decide (c < d) from decide_eq_decide.mpr (lt_one c d)]
    by_cases z : c < d
    · have : ¬ d ≤ c := by omega
      simp [z, this]
    · have : d ≤ c := by omega
      simp [z, this]
  dsimp only
  rw [h]
  exact q
end
theorem chr_a : ("a" : Str) = ⟨#[97]⟩ := by decide +kernel
theorem chr_z : ("z" : Str) = ⟨#[122]⟩ := by decide +kernel
theorem chr_0 : ("0" : Str) = ⟨#[48]⟩ := by decide +kernel
theorem chr_9 : ("9" : Str) = ⟨#[57]⟩ := by decide +kernel
end Ox
namespace Ox
open PySem PySem.Spec PyProof.Rows L2
/-! ### dicts with text keys as association lists -/
theorem strK_look {α : Type} {f : α → V} (l : List (Str × α)) (z : Str) : valV (strK f l) (Sum.inr z : Key) = (l.lookup z).map f := by
  induction l with
  | nil => rfl
  | cons p r ih =>
    show valV ((Sum.inr p.1, f p.2) :: strK f r) (Sum.inr z : Key) = _
    unfold valV
    rw [List.find?_cons, List.lookup_cons]
    by_cases e : p.1 = z
    · subst e
      simp
    · have e1 : ¬ (Sum.inr p.1 : Key) = Sum.inr z := fun q => e (Sum.inr.inj q)
      have e2 : (z == p.1) = false := by simpa using fun q : z = p.1 => e q.symm
      rw [decide_eq_false e1, e2]
      exact ih
/-- a store -/
def putL {α : Type} (l : List (Str × α)) (z : Str) (x : α) : List (Str × α) := if z ∈ l.map (·.1) then l.map (fun p => if p.1 = z then (p.1, x) else p) else l ++ [(z, x)]
theorem putL_new {α : Type} {l : List (Str × α)} {z : Str} (x : α) (h : z ∉ l.map (·.1)) : putL l z x = l ++ [(z, x)] := by
  unfold putL
  rw [if_neg h]
theorem putL_keys {α : Type} {l : List (Str × α)} {z : Str} (x : α) (h : z ∈ l.map (·.1)) : (putL l z x).map (·.1) = l.map (·.1) := by
  unfold putL
  rw [if_pos h, List.map_map]
  refine List.map_congr_left fun p _ => ?_
  show (if p.1 = z then (p.1, x) else p).1 = p.1
  split <;> rfl
theorem putL_nd {α : Type} {l : List (Str × α)} {z : Str} (x : α) (h : (l.map (·.1)).Nodup) : ((putL l z x).map (·.1)).Nodup := by
  by_cases e : z ∈ l.map (·.1)
  · rw [putL_keys x e]
    exact h
  · rw [putL_new x e, List.map_append]
    exact List.nodup_append.mpr ⟨h, by simp, fun a ha b hb q => by
      rw [List.map_cons, List.map_nil, List.mem_singleton] at hb
      rw [q, hb] at ha
      exact e ha⟩
theorem putL_len {α : Type} (l : List (Str × α)) (z : Str) (x : α) : (putL l z x).length ≤ l.length + 1 := by
  unfold putL
  split <;> simp
theorem putL_mem {α : Type} {l : List (Str × α)} {z : Str} {x : α} {p : Str × α} (h : p ∈ putL l z x) : p = (z, x) ∨ (p ∈ l ∧ p.1 ≠ z) := by
  unfold putL at h
  by_cases e : z ∈ l.map (·.1)
  · rw [if_pos e] at h
    obtain ⟨q, hq, e2⟩ := List.mem_map.mp h
    by_cases eq : q.1 = z
    · rw [if_pos eq, eq] at e2
      exact .inl e2.symm
    · rw [if_neg eq] at e2
      rw [← e2]
      exact .inr ⟨hq, eq⟩
  · rw [if_neg e] at h
    rcases List.mem_append.mp h with h | h
    · exact .inr ⟨h, fun q => e (by rw [← q]; exact List.mem_map.mpr ⟨p, h, rfl⟩)⟩
    · exact .inl (List.mem_singleton.mp h)
theorem strK_put {α : Type} {f : α → V} (l : List (Str × α)) (z : Str) (x : α) : putK (strK f l) (Sum.inr z : Key) (f x) = strK f (putL l z x) := by
  have ha : ((strK f l).any fun kv => decide (kv.1 = (Sum.inr z : Key))) = decide (z ∈ l.map (·.1)) := by
    induction l with
    | nil => rfl
    | cons p r ih =>
      show ((decide ((Sum.inr p.1 : Key) = Sum.inr z)) || ((strK f r).any fun kv => decide (kv.1 = (Sum.inr z : Key)))) = decide (z ∈ p.1 :: r.map (·.1))
      rw [ih]
      by_cases e : p.1 = z
      · simp [e]
      · have e2 : ¬ z = p.1 := fun q => e q.symm
        simp [e, e2]
  unfold putK putL
  rw [ha]
  by_cases e : z ∈ l.map (·.1)
  · rw [if_pos (decide_eq_true e), if_pos e]
    show (List.map _ (List.map _ l)) = List.map _ (List.map _ l)
    rw [List.map_map, List.map_map]
    refine List.map_congr_left fun p _ => ?_
    show (if (Sum.inr p.1 : Key) = Sum.inr z then ((Sum.inr p.1 : Key), f x) else (Sum.inr p.1, f p.2)) = ((Sum.inr (if p.1 = z then (p.1, x) else p).1 : Key), f (if p.1 = z then (p.1, x) else p).2)
    by_cases h : p.1 = z
    · rw [if_pos h, if_pos (by rw [h])]
    · rw [if_neg h, if_neg (fun q => h (Sum.inr.inj q))]
  · rw [if_neg (by simp only [decide_eq_true_eq]; exact e), if_neg e]
    exact (List.map_append (l₁ := l) (l₂ := [(z, x)]) (f := fun p : Str × α => ((Sum.inr p.1 : Key), f p.2))).symm
theorem lookup_mem {α : Type} {l : List (Str × α)} {z : Str} {x : α} (h : l.lookup z = some x) : (z, x) ∈ l := by
  induction l with
  | nil => cases h
  | cons p r ih =>
    rw [List.lookup_cons] at h
    by_cases e : z = p.1
    · subst e
      rw [beq_self_eq_true] at h
      cases h
      exact List.mem_cons_self
    · have e2 : (z == p.1) = false := by simpa using e
      rw [e2] at h
      exact List.mem_cons_of_mem _ (ih h)
theorem lookup_of {α : Type} {l : List (Str × α)} (hn : (l.map (·.1)).Nodup) {z : Str} {x : α} (h : (z, x) ∈ l) : l.lookup z = some x := by
  induction l with
  | nil => cases h
  | cons p r ih =>
    obtain ⟨h1, h2⟩ := List.nodup_cons.mp (show (p.1 :: r.map (·.1)).Nodup from hn)
    rw [List.lookup_cons]
    rcases List.mem_cons.mp h with e | h
    · rw [← e]
      simp
    · have ne : ¬ z = p.1 := fun q => h1 (by rw [← q]; exact List.mem_map.mpr ⟨(z, x), h, rfl⟩)
      have e2 : (z == p.1) = false := by simpa using ne
      rw [e2]
      exact ih h2 h
theorem lookup_isSome {α : Type} {l : List (Str × α)} {z : Str} (h : z ∈ l.map (·.1)) : ∃ x, l.lookup z = some x := by
  induction l with
  | nil => cases h
  | cons p r ih =>
    rw [List.lookup_cons]
    by_cases e : z = p.1
    · subst e
      exact ⟨p.2, by simp⟩
    · have e2 : (z == p.1) = false := by simpa using e
      rw [e2]
      exact ih ((List.mem_cons.mp h).resolve_left e)
theorem lookup_none {α : Type} {l : List (Str × α)} {z : Str} (h : z ∉ l.map (·.1)) : l.lookup z = none := by
  cases e : l.lookup z with
  | none => rfl
  | some x => exact absurd (List.mem_map.mpr ⟨_, lookup_mem e, rfl⟩) h
theorem lookup_perm {α : Type} {l l' : List (Str × α)} (hp : l'.Perm l) (hn : (l.map (·.1)).Nodup) (z : Str) : l'.lookup z = l.lookup z := by
  have hn' : (l'.map (·.1)).Nodup := (List.Perm.nodup_iff (hp.map _)).mpr hn
  cases e : l.lookup z with
  | some x => exact lookup_of hn' (hp.mem_iff.mpr (lookup_mem e))
  | none =>
    cases e2 : l'.lookup z with
    | none => rfl
    | some x =>
      have := lookup_of hn (hp.mem_iff.mp (lookup_mem e2))
      rw [e] at this
      cases this
/-- the same table, its keys in another order -/
theorem table_perm {α : Type} {l : List (Str × α)} {ys : List Str} (hn : (l.map (·.1)).Nodup) (hp : ys.Perm (l.map (·.1))) (d : α) : (ys.map fun z => (z, (l.lookup z).getD d)).Perm l := by
  have h1 := hp.map fun z => (z, (l.lookup z).getD d)
  have h2 : (l.map (·.1)).map (fun z => (z, (l.lookup z).getD d)) = l := by
    rw [List.map_map]
    conv => rhs; rw [← List.map_id l]
    refine List.map_congr_left fun p hp => ?_
    show (p.1, (l.lookup p.1).getD d) = p
    rw [lookup_of hn (z := p.1) (x := p.2) hp]
    rfl
  rw [h2] at h1
  exact h1
section
variable {σ : L2.St} {H : Hp} {n : L2.St → Hp → Prop} {r : VK} {b c : L2.St → Hp → Prop} {ta tv : TE} {K : PySem.W.Frag}
def rSfA (K : PySem.W.Frag) (f : Str) (x y : V) (H : Hp) (N : Hp → Prop) : Prop := ∃ a C dx fs, x = .ref a ∧ H a = some (.ins C dx fs) ∧ Cls K C ∧ NoAttr K C f ∧ fs.length < 1000 ∧ N (upd H a (.ins C dx (putF f y fs)))
theorem x_sfld {f : Str} (h : tv σ H fun y H1 => ta σ H1 fun x H2 => rSfA K f x y H2 fun H3 => n σ H3) : sFld K ta tv f ⟨n, r, b, c⟩ σ H := h
theorem x_sf {a C dx : Addr} {fs : List (Str × V)} {f : Str} {y : V} {N : Hp → Prop} (hc : Cls K C) (hn : NoAttr K C f) (h : H a = some (.ins C dx fs)) (hl : fs.length < 1000) (q : N (upd H a (.ins C dx (putF f y fs)))) : rSfA K f (.ref a) y H N :=
  ⟨a, C, dx, fs, rfl, h, hc, hn, hl, q⟩
end
end Ox
namespace Ox
open PySem PySem.Spec PyProof.Rows L2
/-! ### rules with the written part told by a letter (for a comprehension's block) -/
section
variable {X : Cx} {K : PySem.W.Frag}
theorem ix_listK (e : X.K = K := by rfl) : IxR X (rIxL K) := e ▸ ix_list
theorem ix_tupK (e : X.K = K := by rfl) : IxR X (rIxT K) := e ▸ ix_tup
theorem call_lenAK (e : X.K = K := by rfl) : CallR X (.builtin "len") (rLenA K) := e ▸ call_lenA
theorem op_in_seqK (e : X.K = K := by rfl) : OpR X (compareOp .In) (rIn K false) := e ▸ op_in_seq
theorem op_notIn_seqK (e : X.K = K := by rfl) : OpR X (compareOp .NotIn) (rIn K true) := e ▸ op_notIn_seq
theorem call_isiK (e : X.K = K := by rfl) : CallR X (.builtin "isinstance") (rIsi K) := e ▸ call_isi
theorem call_listAK (e : X.K = K := by rfl) : CallR X (.type "list") (rListA K) := e ▸ call_listA
theorem call_tupleAK (e : X.K = K := by rfl) : CallR X (.type "tuple") (rTupleA K) := e ▸ call_tupleA
theorem sl_listK (e : X.K = K := by rfl) : SlR X (rSlL K) := e ▸ sl_list
theorem pe_fldK {o : Expr} {f : Str} {pos : Pos} {ta : TE} (he : PE X o ta) (hb : attributeBase o f X.env (eval o X.env) = eval o X.env) (e : X.K = K := by rfl) : PE X (.Attribute o f pos) (tFld K ta f) := e ▸ pe_fld he hb
end
end Ox
namespace Ox
open PySem PySem.Spec PyProof.Rows L2
theorem pg_tupK {X : Cx} {K : PySem.W.Frag} {es : List Expr} {k : Nat} {pos : Pos} {t : TGs} {n : Nat} (hc : X.calm = true) (h : PGs X es t) (hn : (assignEach es X.env).length = n := by rfl) (hst : (assignEach es X.env).findIdx? (·.1) = none := by rfl)
    (e : X.K = K := by rfl) : PG X (.Tuple es k pos) (gTup K n t) := e ▸ pg_tup hc h hn hst
end Ox
namespace Ox
open PySem PySem.Spec PyProof.Rows L2
theorem putL_old {α : Type} {l : List (Str × α)} {z : Str} (x : α) (h : z ∈ l.map (·.1)) : putL l z x = l.map fun p => if p.1 = z then (p.1, x) else p := by
  unfold putL
  rw [if_pos h]
theorem putL_putL {α : Type} (l : List (Str × α)) (z : Str) (a b : α) : putL (putL l z a) z b = putL l z b := by
  by_cases e : z ∈ l.map (·.1)
  · have e2 : z ∈ (putL l z a).map (·.1) := by rw [putL_keys a e]; exact e
    rw [putL_old b e2, putL_old b e, putL_old a e, List.map_map]
    refine List.map_congr_left fun p _ => ?_
    show (if (if p.1 = z then (p.1, a) else p).1 = z then ((if p.1 = z then (p.1, a) else p).1, b) else (if p.1 = z then (p.1, a) else p)) = _
    by_cases h : p.1 = z
    · simp [h]
    · simp [h]
  · have e2 : z ∈ (putL l z a).map (·.1) := by rw [putL_new a e]; simp
    rw [putL_old b e2, putL_new a e, putL_new b e, List.map_append]
    have h4 : (l.map fun p => if p.1 = z then (p.1, b) else p) = l := by
      conv => rhs; rw [← List.map_id l]
      refine List.map_congr_left fun p hp => ?_
      have : ¬ p.1 = z := fun q => e (by rw [← q]; exact List.mem_map.mpr ⟨p, hp, rfl⟩)
      rw [if_neg this]
      rfl
    rw [h4]
    simp
end Ox

/-! Own layer, second part: list(d.values()), kinds of values, own classes. -/
namespace Ox
open PySem PySem.Spec PyProof.Rows L2
/-! ### list(d.values()), list(d) -/
def rListVA (x : V) (H : Hp) (Q : VK) : Prop := ∃ (d : Addr) (kvs : List (Key × V)), x = .ref d ∧ Rd H d (.dK kvs) ∧ ∀ p, H p = none → Q (.ref p) (upd H p (.lst (kvs.map Prod.snd)))
def tListVA (te : TE) : TE := fun σ H Q => te σ H fun x H1 => rListVA x H1 Q
section
variable {X : Cx} {e : Expr} {te : TE} {p apos cpos pos : Pos}
theorem pe_listV (hc : X.calm = true) (he : PE X e te) (hg : Gl X "list") (hm : X.mg "list" = none) (hv : bootBuiltins "list" = some (.type "list") := by decide +kernel)
    (hbase : attributeBase e "values" X.env (eval e X.env) = eval e X.env := by rfl)
    (hline : (apos.endLine == cpos.line) = true := by rfl)
    (hs : starEach [.Call (.Attribute e "values" apos) [] [] cpos] X.env = (false, eval (.Call (.Attribute e "values" apos) [] [] cpos) X.env) :: starEach [] X.env := by rfl) :
    PE X (.Call (.Name "list" p) [.Call (.Attribute e "values" apos) [] [] cpos] [] pos) (tListVA te) := ⟨fun pins s σ H Q I hq => by
  refine wpAny_Call_Name_kw (ld_blt I hg hm hv (PyProof.Rows.callWith_type1 ?_ hs rfl))
  rw [hs]
  show wpAny _ _ (spliced ((false, eval (.Call (.Attribute e "values" apos) [] [] cpos) X.env) :: backTo pos (starEach [] X.env))) _ _ _
  refine Calls.spliced_cons (wpAny_Call_method (T := "dict") (id := "dict.values") hbase rfl hline F.plainAttrs_dict F.slot_dict_values F.type_dict_values ?_)
  refine thn (he.run pins s σ H _ I hq) fun u s1 ⟨x, H1, I1, rx, d, kvs, ex, hd, q⟩ => ?_
  subst ex
  obtain rfl : u = Value.ref d := rx
  obtain ⟨hz, hs0, ws, kv, hdo⟩ := (show ObjOk X.prog X.w H1 s1.heap d (.dK kvs) from hd.ok I1.hok)
  obtain ⟨ep, hat⟩ := hdo.dictAt
  have lk : kvs.length = ws.length := Paired.length kv
  have I2 : Inv X pins σ H1 { s1 with heap := s1.heap.push { cls := .type "dict_values", data := .fields #[.ref d] } } := I1.kept fun b ob q => Heap.get?_push_of_some _ q
  refine ⟨hdo.typeIs, hdo.mapOf.noDict, ?_⟩
  show wpAny _ _ (callWith cpos (.builtin "dict.values") [.ref d] [] []) _ X.xe s1
  refine method_meetsIn F.slot_dict_values F.entry_dict_values rfl (PySem.evalArgs_none ⟨rfl, hdo.typeIs, F.args_dict_values_1 _, _, meets_dict_values (mixKind X.prog X.w) d hs0, ⟨ws, hdo⟩, Calls.spliced_nil ?_⟩)
  refine PySem.W.kdl_call (PySem.W.kdl_values (knd := mixKind X.prog X.w) (kvs := ws) (ep := ep)) (I1.ok.hd hc) ⟨⟨_, Heap.get?_push_size _ rfl, rfl, rfl⟩, hat.push _⟩ (by omega) fun h' tk acc c hk hS hacc => ?_
  refine ⟨.ref _, upd H1 _ (.lst (kvs.map Prod.snd)), I2.laid hk (Nat.le_refl _) (show ObjOk X.prog X.w _ _ _ (.lst (kvs.map Prod.snd)) from ⟨by rw [List.length_map]; exact hz, acc.toList, c, ?_, by rw [Array.toArray_toList]; exact hS⟩), rfl, q _ (I2.hok.fresh (Nat.le_refl _))⟩
  have el : acc.toList.length = acc.size := by simp
  refine vals_of_at (by rw [List.length_map, el, hacc.1, lk]) fun j x w h1 h2 => ?_
  obtain ⟨k, hky⟩ := hacc.2 j w (by rw [← Array.getElem?_toList]; exact h2)
  rw [List.getElem?_map] at h1
  cases e2 : kvs[j]? with
  | none => rw [e2] at h1; cases h1
  | some kvj =>
    rw [e2] at h1
    have h3 : kvj.2 = x := Option.some.inj h1
    obtain ⟨y, hy, _, ry⟩ := LiI.paired_get kv e2
    rw [hky] at hy
    cases hy
    rw [← h3]
    exact ry⟩
end
theorem x_listV {σ : L2.St} {H : Hp} {Q : VK} {te : TE} (h : te σ H fun x H1 => rListVA x H1 Q) : tListVA te σ H Q := h
theorem x_listv {H : Hp} {Q : VK} {d : Addr} {kvs : List (Key × V)} (h : Rd H d (.dK kvs)) (q : ∀ p, H p = none → Q (.ref p) (upd H p (.lst (kvs.map Prod.snd)))) : rListVA (.ref d) H Q := ⟨d, kvs, rfl, h, q⟩
theorem x_listD {H : Hp} {Q : VK} {d : Addr} {kvs : List (Key × V)} (h : H d = some (.dK kvs)) (q : ∀ p, H p = none → Q (.ref p) (upd H p (.lst (kvs.map fun kv => kV kv.1)))) : rListD [.ref d] H Q := ⟨d, kvs, rfl, h, q⟩
/-! ### kinds of values -/
inductive Kn where
  | non | bl | int | str | lst | tup | dict
  deriving DecidableEq
def Kn.ty : Kn → String
  | .non => "NoneType" | .bl => "bool" | .int => "int" | .str => "str" | .lst => "list" | .tup => "tuple" | .dict => "dict"
/-- x is of the kind -/
inductive Kd (K : PySem.W.Frag) (H : Hp) : V → Kn → Prop where
  | non : Kd K H .non .non
  | bl (b : Bool) : Kd K H (.bl b) .bl
  | int (i : Int) : Kd K H (.int i) .int
  | str (z : Str) : Kd K H (.str z) .str
  | lst {a : Addr} {xs : List V} (h : SqL K H a xs) : Kd K H (.ref a) .lst
  | tup {a : Addr} {xs : List V} (h : SqT K H a xs) : Kd K H (.ref a) .tup
  | dict {a : Addr} {kvs : List (Key × V)} (h : Rd H a (.dK kvs)) : Kd K H (.ref a) .dict
theorem Kd.tyx {K : PySem.W.Frag} {H : Hp} {x : V} {k : Kn} (h : Kd K H x k) : TyX K H x (.type k.ty) := by
  cases h with
  | non => exact .base .non
  | bl b => exact .base (.bl b)
  | int i => exact .base (.int i)
  | str z => exact .base (.str z)
  | lst h =>
    rcases h with (h | ⟨o, h⟩) | ⟨o, its, n, h1, h2, _⟩
    · exact .base (.lst h)
    · exact .base (.frz h)
    · exact .kList h1 h2
  | tup h =>
    rcases h with (h | ⟨o, h⟩) | ⟨o, its, n, h1, h2, _⟩
    · exact .base (.tup h)
    · exact .fTuple h
    · exact .kTuple h1 h2
  | dict h =>
    rcases h with h | ⟨o, h⟩
    · exact .base (.dK h)
    · exact .fDict h
def isB : Kn → Kn → Bool
  | .non, .non => true | .bl, .bl => true | .bl, .int => true | .int, .int => true | .str, .str => true | .lst, .lst => true | .tup, .tup => true | .dict, .dict => true
  | _, _ => false
theorem kitB_is : ∀ k T : Kn, T ≠ .non → kitB k.ty T.ty = some (isB k T) := by
  intro k T hT
  cases T with
  | non => exact absurd rfl hT
  | _ => cases k <;> decide +kernel
section
variable {K : PySem.W.Frag} {H : Hp} {Q : VK} {x : V} {k : Kn}
theorem x_isi (T : Kn) (h : Kd K H x k) (q : Q (.bl (isB k T)) H) (hT : T ≠ .non := by decide) : rIsi K [x, .ty T.ty] H Q := ⟨x, _, _, _, _, rfl, .ty _, h.tyx, kit_ty (kitB_is k T hT), q⟩
theorem x_isiInt (h : Kd K H x k) (q : Q (.bl (isB k .int)) H) : rIsi K [x, .ty "int"] H Q := x_isi .int h q
theorem x_isiBool (h : Kd K H x k) (q : Q (.bl (isB k .bl)) H) : rIsi K [x, .ty "bool"] H Q := x_isi .bl h q
theorem x_isiStr (h : Kd K H x k) (q : Q (.bl (isB k .str)) H) : rIsi K [x, .ty "str"] H Q := x_isi .str h q
theorem x_isiList (h : Kd K H x k) (q : Q (.bl (isB k .lst)) H) : rIsi K [x, .ty "list"] H Q := x_isi .lst h q
theorem x_isiTup (h : Kd K H x k) (q : Q (.bl (isB k .tup)) H) : rIsi K [x, .ty "tuple"] H Q := x_isi .tup h q
theorem x_isiDict (h : Kd K H x k) (q : Q (.bl (isB k .dict)) H) : rIsi K [x, .ty "dict"] H Q := x_isi .dict h q
end
/-! ### own classes: isinstance -/
/-- the class at C: what isinstance asks of it -/
structure Isc (K : PySem.W.Frag) (C : Addr) : Prop where
  cl : Cls K C
  ha : PySem.W.findIn K (.ref C) "__class__" = some (some (.builtin "object.__class__"))
  hn : PySem.W.specialIn K (.builtin "object.__class__") "__get__" = some (some (.builtin "getset_descriptor.__get__"))
  ht : PySem.W.takesIn K (.builtin "object.__class__") = some true
  hm : PySem.W.mroIn K C (.type "object") = some true
theorem x_isiOwn {K : PySem.W.Frag} {H : Hp} {Q : VK} {a C D dx : Addr} {fs : List (Str × V)} {b : Bool} (i : Isc K C) (h : H a = some (.ins C dx fs)) (hk : PySem.W.kitOne K (.ref C) (.ref D) = some b) (q : Q (.bl b) H) : rIsi K [.ref a, .ref D] H Q :=
  ⟨_, _, _, _, _, rfl, .own D, .base (.ins h i.cl i.ha i.hn i.ht i.hm), hk, q⟩
theorem iscB_ok {C : Str} {K : PySem.W.Frag} (h : iscB C K = true) : Isc K (He.ga K C) := by
  obtain ⟨h1, h⟩ := Bool.and_eq_true_iff.mp h
  obtain ⟨h2, h⟩ := Bool.and_eq_true_iff.mp h
  obtain ⟨h3, h⟩ := Bool.and_eq_true_iff.mp h
  obtain ⟨h4, h5⟩ := Bool.and_eq_true_iff.mp h
  exact ⟨He.cls_ok h1, He.eqO_ok h2, He.eqO_ok h3, of_decide_eq_true h4, of_decide_eq_true h5⟩
theorem kitF_ok {C D : Str} {b : Bool} {K : PySem.W.Frag} (h : kitF C D b K = true) : PySem.W.kitOne K (.ref (He.ga K C)) (.ref (He.ga K D)) = some b := of_decide_eq_true h
end Ox
namespace Ox
open PySem PySem.Spec PyProof.Rows L2
/-! ### == by an own __eq__, any answer -/
def rEqOwn (C : Addr) (sp : Sp) : R2 := fun x y H Q => ∃ a b dx dy fs gs, x = .ref a ∧ y = .ref b ∧ H a = some (.ins C dx fs) ∧ H b = some (.ins C dy gs) ∧ sp [.ref a, .ref b] H (fun v H' => ∃ k, v = .bl k ∧ Q (.bl k) H') E0
theorem op_eqOwn {X : Cx} {C : Addr} {k : Nat} {sp : Sp} {ps : List Str} (M : Met X.prog X.w X.K X.mg X.base C k "__eq__" ps sp) (hr : Room k X.A) : OpR X (compareOp .Eq) (rEqOwn C sp) := by
  obtain ⟨f, fd, mt, F, hb⟩ := M.ex
  intro pins s σ H x y u v Q I rx ry h
  obtain ⟨a, b, dx, dy, fs, gs, rfl, rfl, ha, hb2, hsp⟩ := h
  cases rx
  cases ry
  obtain ⟨mA, J, _⟩ := ins_get I.hok ha
  obtain ⟨mB, J2, _⟩ := ins_get I.hok hb2
  obtain ⟨od, J, _⟩ := J.look
  obtain ⟨od2, J2, _⟩ := J2.look
  obtain ⟨m, hF⟩ := I.fr
  show wpAny (model X.prog X.w) X.A (richCompare .Eq (.ref a) (.ref b)) (EP X pins σ Q) X.xe s
  refine PySem.W.cmp_K (op := .Eq) (tb := .ref C) hr.units0 hF I.ok.mod.kin J J2.type (by simp [PySem.W.notFirst]) mt.at_ mt.fn ?_
  have hl := F.len _ _ _ _ hsp
  have r2 : Vals [V.ref a, V.ref b] [Value.ref a, Value.ref b] := .cons rfl (.cons rfl .nil)
  refine wpAny_call (codeAny_mono (F.run X.A X.stack s H ⟨[.ref a, .ref b], []⟩ [.ref a, .ref b] [.ref a, .ref b] _ E0 hr I.env0 (by
    have := hb s [.ref a, .ref b] I.kIn (by simpa using hl)
    simpa using this) r2 hsp) fun r s' hq => ?_)
  cases r with
  | error e => exact hq.elim
  | ok fl =>
    cases fl with
    | ret w =>
      obtain ⟨z, H', I', rz, kk, ez, q⟩ := I.after hq
      subst ez
      cases rz
      exact ⟨.bl kk, H', I', rfl, q⟩
    | next => exact False.elim hq
    | brk => exact False.elim hq
    | cont => exact False.elim hq
theorem x_eqOwn {C : Addr} {sp : Sp} {H : Hp} {Q : VK} {a b dx dy : Addr} {fs gs : List (Str × V)} (ha : H a = some (.ins C dx fs)) (hb : H b = some (.ins C dy gs)) (h : sp [.ref a, .ref b] H (fun v H' => ∃ k, v = .bl k ∧ Q (.bl k) H') E0) : rEqOwn C sp (.ref a) (.ref b) H Q :=
  ⟨a, b, dx, dy, fs, gs, rfl, rfl, ha, hb, h⟩
end Ox
namespace Ox
open PySem PySem.Spec PyProof.Rows L2
theorem Kd.same {K : PySem.W.Frag} {H H' : Hp} {x : V} {k : Kn} (s : L2.Same H H') (h : Kd K H x k) : Kd K H' x k := by
  cases h with
  | non => exact .non
  | bl b => exact .bl b
  | int i => exact .int i
  | str z => exact .str z
  | lst h => exact .lst (s.seq h)
  | tup h => exact .tup (same_t s h)
  | dict h => exact .dict (same_rd s h)
/-- .. where one dict is held -/
theorem Kd.held {K : PySem.W.Frag} {H : Hp} {x : V} {k : Kn} {d : Addr} {o : Obj} {kvs : List (Key × V)} (hd : H d = some (.dK kvs)) (h : Kd K H x k) : Kd K (upd H d (.frz o (.dK kvs))) x k := by
  have rd : ∀ {a u}, Rd H a u → Rd (upd H d (.frz o (.dK kvs))) a u := fun {a u} h => by
    by_cases e : a = d
    · subst e
      rcases h with h | ⟨o', h⟩
      · rw [hd] at h
        cases h
        exact .inr ⟨o, upd_same⟩
      · rw [hd] at h
        cases h
    · rcases h with h | ⟨o', h⟩
      · exact .inl (by rw [upd_ne e]; exact h)
      · exact .inr ⟨o', by rw [upd_ne e]; exact h⟩
  cases h with
  | non => exact .non
  | bl b => exact .bl b
  | int i => exact .int i
  | str z => exact .str z
  | lst h => exact .lst (h.elim (fun h => .inl (rd h)) .inr)
  | tup h => exact .tup (h.elim (fun h => .inl (rd h)) .inr)
  | dict h => exact .dict (rd h)
end Ox
namespace Ox
open PySem PySem.Spec PyProof.Rows L2
section
variable {σ : L2.St} {H : Hp} {Q : VK} {ta : TE} {K : PySem.W.Frag} {C : Addr} {sp : Sp}
def rRevA (K : PySem.W.Frag) (x : V) (H : Hp) (Q : VK) : Prop := ∃ a xs, x = .ref a ∧ SqL K H a xs ∧ ∀ p, H p = none → Q (.ref p) (upd H p (.lst xs.reverse))
theorem x_revL (h : ta σ H fun x H1 => rRevA K x H1 Q) : tRevL K ta σ H Q := h
theorem x_rev {a : Addr} {xs : List V} (h : SqL K H a xs) (q : ∀ p, H p = none → Q (.ref p) (upd H p (.lst xs.reverse))) : rRevA K (.ref a) H Q := ⟨a, xs, rfl, h, q⟩
def rPropA (C : Addr) (sp : Sp) (x : V) (H : Hp) (Q : VK) : Prop := ∃ a dx fs, x = .ref a ∧ H a = some (.ins C dx fs) ∧ sp [.ref a] H Q E0
theorem x_prop (h : ta σ H fun x H1 => rPropA C sp x H1 Q) : tProp C sp [] E0 ta σ H Q := h
theorem x_prp {a dx : Addr} {fs : List (Str × V)} (h : H a = some (.ins C dx fs)) (q : sp [.ref a] H Q E0) : rPropA C sp (.ref a) H Q := ⟨a, dx, fs, rfl, h, q⟩
theorem x_putL {α : Type} {f : α → V} {l : List (Str × α)} {z : Str} {x : α} {v : V} {p : Addr} {N : Hp → Prop} (h : H p = some (.dK (strK f l))) (hl : l.length < 10000) (hv : v = f x) (q : N (upd H p (.dK (strK f (putL l z x))))) : rDputA (.ref p) (.str z) v H N := by
  subst hv
  refine x_putS h (sz_lt (by rw [List.length_map]; exact hl)) ?_
  rw [strK_put]
  exact q
theorem x_getL {α : Type} {f : α → V} {l : List (Str × α)} {z : Str} {x : α} {p : Addr} (h : Rd H p (.dK (strK f l))) (e : l.lookup z = some x) (q : Q (f x) H) : rGetA (.ref p) (.str z) H Q :=
  x_getS h (by rw [strK_look, e]; rfl) q
theorem x_inD {α : Type} {f : α → V} {l : List (Str × α)} {z : Str} {p : Addr} (h : Rd H p (.dK (strK f l))) (q : Q (.bl (l.lookup z).isSome) H) : rDinA (.str z) (.ref p) H Q := by
  refine x_dinS h ?_
  rw [strK_look, Option.isSome_map]
  exact q
theorem x_ninD {α : Type} {f : α → V} {l : List (Str × α)} {z : Str} {p : Addr} (h : Rd H p (.dK (strK f l))) (q : Q (.bl (!(l.lookup z).isSome)) H) : rDninA (.str z) (.ref p) H Q := by
  refine x_dninS h ?_
  rw [strK_look, Option.isSome_map]
  exact q
end
end Ox
namespace Ox
open PySem PySem.Spec PyProof.Rows L2
/-- a dict was held, then set free -/
theorem same_back {H H' : Hp} {d : Addr} {o : Obj} {u : HO} (hd : H d = some u) (s : L2.Same (upd H d (.frz o u)) H') : L2.Same H (upd H' d u) := fun b x e => by
  by_cases hb : b = d
  · subst hb
    rw [hd] at e
    rw [upd_same, e]
  · rw [upd_ne hb]
    exact s b x (by rw [upd_ne hb]; exact e)
theorem rd_held {H : Hp} {d n : Addr} {o : Obj} {u x : HO} (hn : n ≠ d) (h : Rd H n x) : Rd (upd H d (.frz o u)) n x := by
  rcases h with h | ⟨o', h⟩
  · exact .inl (by rw [upd_ne hn]; exact h)
  · exact .inr ⟨o', by rw [upd_ne hn]; exact h⟩
theorem upd_id {H : Hp} {d : Addr} {u : HO} (h : H d = some u) : upd H d u = H := by
  funext b
  by_cases hb : b = d
  · subst hb; rw [upd_same, h]
  · rw [upd_ne hb]
/-! ### while x: -/
section
variable {tb : TS} {σ : L2.St} {H : Hp} {n : L2.St → Hp → Prop} {r : VK} {b k : L2.St → Hp → Prop} {i : Nat}
/-- W m: what holds ahead of the test, m goes down -/
theorem lpWv (W : Nat → L2.St → Hp → Prop) {m : Nat} (h0 : W m σ H) (hs : ∀ m σ H, W m σ H → ∃ z, σ[i]? = some (some (.bl z)) ∧
    if z = true then tb ⟨fun σ' H' => ∃ m', m' < m ∧ W m' σ' H', r, n, fun σ' H' => ∃ m', m' < m ∧ W m' σ' H'⟩ σ H else n σ H) : tWhile (tTest (tVar i)) tb ⟨n, r, b, k⟩ σ H := by
  refine ⟨W, ⟨m, h0⟩, fun m σ H h => ?_⟩
  obtain ⟨z, hz, q⟩ := hs m σ H h
  refine ⟨.bl z, hz, z, rfl, ?_⟩
  cases z with
  | true => exact ⟨fun σ' H' => ∃ m', m' < m ∧ W m' σ' H', fun _ _ h => h, q⟩
  | false => exact q
end
end Ox

/-! Own layer, third part: name = {k: v for ..}. -/
namespace Ox
open PySem PySem.Spec PyProof.Rows L2
section
variable {X : Cx}
theorem sw_trueD {kx vx : Expr} {gs : List Comprehension} {scope : Scope} {pos py : Pos} {y : Str} {l : Nat} {env : Env} (hk : env.scope.kind = .function) (hy : env.scope.names.lookup y = some .local) (hl : (py.line == pos.line) = true)
    (ha : (scope.names.any fun (n, k) => n == y && (k == .local || k == .cell)) = false) : swapsWith (.DictComp kx vx gs scope pos) (some (.Name y py)) l env = pure true := by
  have k1 : env.kindOf y = some .local := hy
  have k2 : env.blockKind = .function := by unfold Env.blockKind; rw [hk]; rfl
  unfold swapsWith; simp only [k2, k1, ha, Expr.pos, hl]; rfl
theorem ps_setDc {i : Nat} {y : Str} {py : Pos} {kx vx tg iter : Expr} {ifs : List Expr} {scope : Scope} {own : List (Str × Nat)} {pos spos : Pos} {wi : TI} {g : TG} {tt : TT} {tk tv : TE} (hc : X.calm = true) (hN : X.N.Nodup) (hy : X.N[i]? = some y) (hyl : X.env.scope.names.lookup y = some .local)
    (hsw : swapsWith (.DictComp kx vx [⟨tg, iter, ifs, 0⟩] scope pos) (some (.Name y py)) spos.line X.env = pure true) (hi : PI X tg iter wi) (ok : BlkOk X.N X.env.scope scope own)
    (hg : ∀ (s : Shared) (H : Hp) (C : Addr) (cl : List (Str × Addr)) (fp : List Addr), PG (X.blk s H scope (compEnvC scope cl C X.env) fp) tg g) (htt : ∀ (s : Shared) (H : Hp) (C : Addr) (cl : List (Str × Addr)) (fp : List Addr), PTs (X.blk s H scope (compEnvC scope cl C X.env) fp) ifs tt)
    (hkx : ∀ (s : Shared) (H : Hp) (C : Addr) (cl : List (Str × Addr)) (fp : List Addr), PE (X.blk s H scope (compEnvC scope cl C X.env) fp) kx tk) (hvx : ∀ (s : Shared) (H : Hp) (C : Addr) (cl : List (Str × Addr)) (fp : List Addr), PE (X.blk s H scope (compEnvC scope cl C X.env) fp) vx tv)
    (hs : ∀ x, foldedSetIterable iter X.env x = pure x := by intro _; rfl) :
    PS X (.Assign [.Name y py] (.DictComp kx vx [⟨tg, iter, ifs, 0⟩] scope pos) spos) (tAsg (tDc wi g tt tk tv (own.map (·.2))) (gName i)) := by
  constructor; intro pins s σ H D I h; rw [exec_Assign_Name_used _ _ _ _ hsw]; refine wpAny_bind (wpAny_standAt (wpAny_bind ?_))
  show wpAny _ X.A (do let _ ← comprehension (.DictComp kx vx [⟨tg, iter, ifs, 0⟩] scope pos) scope X.env (firstIterPos [⟨tg, iter, ifs, 0⟩] pos) newDict false (eval iter X.env) (some (assign (.Name y py) X.env))) _ _ s
  have h2 : tDc wi g tt tk tv (own.map (·.2)) σ H (fun x H1 => gName i x σ H1 D.nx) := h
  refine wpAny_bind (thn (dc_core (Qf := fun _ s' => SP X pins D .next s') hc hN I hi ok hg htt hkx hvx hs h2 fun L C s' m H' I' q hn f => ?_) fun _ s' hq => wpAny_pure (wpAny_pure hq))
  show wpAny _ _ (assign (.Name y py) X.env (.ref L)) _ _ _
  refine wpAny_assign_Name (store_ok2 (v := V.ref L) I' hN hy (.inl hyl) rfl (fun s2 I2 ⟨a, sb, ha⟩ => ?_) (.inr hyl)); obtain ⟨f0, f1, f2, f3, f4, f5⟩ := f
  have haC : C ≠ a := by rcases ha with z | z; (· rw [z]; exact f1); (· exact fun e => f4 y a z e.symm)
  refine ⟨m, hn.sameBut sb haC, fun h3 sb3 => ⟨_, H', I2.turned (t' := s2.toks) (fun b o hb e => (sb3.2 b hb).trans e) f0 f1 f3 f4 f5, q⟩⟩
end
end Ox
namespace Ox
open PySem PySem.Spec PyProof.Rows L2
/-! ### sorted texts: one order -/
theorem nlt_trans : ∀ a b c : List Nat, ltCps b a = false → ltCps c b = false → ltCps c a = false
  | [], _, [], _, _ => rfl
  | [], [], _ :: _, _, _ => rfl
  | [], _ :: _, _ :: _, _, _ => rfl
  | _ :: _, [], _, h, _ => by cases h
  | _ :: _, _ :: _, [], _, h => by cases h
  | a :: r, b :: t, c :: u, h1, h2 => by
    have e1 : (decide (b < a) || (b == a && ltCps t r)) = false := h1
    have e2 : (decide (c < b) || (c == b && ltCps u t)) = false := h2
    show (decide (c < a) || (c == a && ltCps u r)) = false
    rw [Bool.or_eq_false_iff, decide_eq_false_iff_not] at e1 e2 ⊢
    refine ⟨by omega, ?_⟩
    by_cases h : c = a
    · have hb : b = a := by omega
      have hc : c = b := by omega
      have f1 := e1.2
      have f2 := e2.2
      rw [hb, beq_self_eq_true, Bool.true_and] at f1
      rw [hc, beq_self_eq_true, Bool.true_and] at f2
      rw [nlt_trans r t u f1 f2, Bool.and_false]
    · rw [beq_eq_false_iff_ne.mpr h, Bool.false_and]
theorem nlt_anti : ∀ a b : List Nat, ltCps b a = false → ltCps a b = false → a = b
  | [], [], _, _ => rfl
  | [], _ :: _, _, h => by cases h
  | _ :: _, [], h, _ => by cases h
  | a :: r, b :: t, h1, h2 => by
    have e1 : (decide (b < a) || (b == a && ltCps t r)) = false := h1
    have e2 : (decide (a < b) || (a == b && ltCps r t)) = false := h2
    rw [Bool.or_eq_false_iff, decide_eq_false_iff_not] at e1 e2
    have hb : b = a := by omega
    subst hb
    have f1 := e1.2
    have f2 := e2.2
    rw [beq_self_eq_true, Bool.true_and] at f1 f2
    rw [nlt_anti r t f1 f2]
abbrev LeS (a b : Str) : Prop := ltCps b.cps.toList a.cps.toList = false
theorem rising_pw : ∀ (p : Str) (l : List Str), risingS p l = true → (p :: l).Pairwise LeS
  | p, [], _ => List.pairwise_singleton _ _
  | p, x :: r, h => by
    have h1 : (!ltCps x.cps.toList p.cps.toList && risingS x r) = true := h
    rw [Bool.and_eq_true, Bool.not_eq_true'] at h1
    have ih := rising_pw x r h1.2
    refine List.pairwise_cons.mpr ⟨fun y hy => ?_, ih⟩
    rcases List.mem_cons.mp hy with e | hy
    · subst e
      exact h1.1
    · exact nlt_trans _ _ _ h1.1 ((List.pairwise_cons.mp ih).1 y hy)
theorem sorted_pw {l : List Str} (h : sortedS l = true) : l.Pairwise LeS := by
  cases l with
  | nil => exact .nil
  | cons x r => exact rising_pw x r h
theorem str_ext {a b : Str} (h : a.cps.toList = b.cps.toList) : a = b := by
  cases a with
  | mk a =>
    cases b with
    | mk b =>
      have e : a = b := Array.toList_inj.mp h
      rw [e]
theorem sorted_one {l l' : List Str} (h : sortedS l = true) (h' : sortedS l' = true) (p : l.Perm l') : l = l' :=
  List.Perm.eq_of_pairwise (le := LeS) (fun a b _ _ h1 h2 => str_ext (nlt_anti _ _ h1 h2)) (sorted_pw h) (sorted_pw h') p
/-! ### a heap without one place -/
def wo (H : Hp) (a : Addr) : Hp := fun b => if b = a then none else H b
theorem wo_at {H : Hp} {a : Addr} : wo H a a = none := if_pos rfl
theorem wo_ne {H : Hp} {a b : Addr} (h : b ≠ a) : wo H a b = H b := if_neg h
theorem wo_same {H : Hp} {a : Addr} : L2.Same (wo H a) H := fun b o e => by
  by_cases h : b = a
  · subst h
    rw [wo_at] at e
    cases e
  · rw [wo_ne h] at e
    exact e
theorem wo_mono {H H' : Hp} {a : Addr} (s : L2.Same H H') : L2.Same (wo H a) (wo H' a) := fun b o e => by
  by_cases h : b = a
  · subst h
    rw [wo_at] at e
    cases e
  · rw [wo_ne h] at e ⊢
    exact s b o e
theorem wo_upd {H : Hp} {a : Addr} {u : HO} : wo (upd H a u) a = wo H a := by
  funext b
  by_cases h : b = a
  · subst h
    rw [wo_at, wo_at]
  · rw [wo_ne h, wo_ne h, upd_ne h]
theorem same_wo {H H' : Hp} {a : Addr} {u : HO} (s : L2.Same H H') : L2.Same (wo H a) (upd H' a u) := same_upd (wo_same.trans s) wo_at
theorem len_put {f : Str} {v : V} {fs : List (Str × V)} {k : Nat} (h : fs.length < k) : (putF f v fs).length < k + 1 := Nat.lt_of_le_of_lt (length_putF _ _ _) (Nat.succ_lt_succ h)
end Ox
namespace Ox
open PySem PySem.Spec PyProof.Rows L2
/-! ### slices -/
def rPartA (x : V) (H : Hp) (R : Option Int → Hp → Prop) : Prop := ∃ i, x = .int i ∧ R (some i) H
section
variable {σ : L2.St} {H : Hp} {Q : VK} {te : TE} {tl th : TO} {K : PySem.W.Frag} {R : Option Int → Hp → Prop}
theorem x_sl {r : V → Option Int → Option Int → Hp → VK → Prop} (h : te σ H fun x H1 => tl σ H1 fun l H2 => th σ H2 fun u H3 => r x l u H3 Q) : tSl r te tl th σ H Q := h
theorem x_nopart (h : R none H) : tNoPart σ H R := h
theorem x_part (h : te σ H fun x H1 => rPartA x H1 R) : tPart te σ H R := h
theorem x_parti {i : Int} (h : R (some i) H) : rPartA (.int i) H R := ⟨i, rfl, h⟩
theorem x_slL {p : Addr} {xs : List V} {lo hi : Option Int} (h : SqL K H p xs) (q : ∀ l, H l = none → Q (.ref l) (upd H l (.lst (cutV xs lo hi)))) : rSlL K (.ref p) lo hi H Q := ⟨p, xs, rfl, h, q⟩
theorem cut_from {xs : List V} {lo : Int} (h0 : 0 ≤ lo) (h1 : lo ≤ xs.length) : cutV xs (some lo) none = xs.drop lo.toNat := by
  obtain ⟨k, rfl⟩ : ∃ k : Nat, lo = (k : Int) := ⟨lo.toNat, by omega⟩
  unfold cutV
  rw [HT.sIx_nat, HT.sIx_none, Int.toNat_natCast]
  have hk : min k xs.length = k := by omega
  rw [hk]
  exact List.take_of_length_le (by rw [List.length_drop]; omega)
theorem cut_to {xs : List V} {hi : Int} (h0 : 0 ≤ hi) (h1 : hi ≤ xs.length) : cutV xs none (some hi) = xs.take hi.toNat := by
  obtain ⟨k, rfl⟩ : ∃ k : Nat, hi = (k : Int) := ⟨hi.toNat, by omega⟩
  unfold cutV
  rw [HT.sIx_nat, HT.sIx_none, Int.toNat_natCast]
  have hk : min k xs.length = k := by omega
  rw [hk]
  rfl
end
/-! ### a list of whole numbers, asked at a place -/
theorem pickI (L : List Int) {j : Int} (h0 : 0 ≤ j) (h1 : j < L.length) : ∃ g, (L.map V.int)[j.toNat]? = some (.int g) ∧ g ∈ L := by
  have hlt : j.toNat < L.length := by omega
  refine ⟨L[j.toNat], ?_, List.getElem_mem hlt⟩
  rw [List.getElem?_map, List.getElem?_eq_getElem hlt]
  rfl
theorem pickS (L : List Str) {j : Int} (h0 : 0 ≤ j) (h1 : j < L.length) : ∃ g, (L.map V.str)[j.toNat]? = some (.str g) ∧ L[j.toNat]? = some g := by
  have hlt : j.toNat < L.length := by omega
  refine ⟨L[j.toNat], ?_, List.getElem?_eq_getElem hlt⟩
  rw [List.getElem?_map, List.getElem?_eq_getElem hlt]
  rfl
/-! ### stores, asked again -/
theorem lookup_putL {α : Type} (l : List (Str × α)) (z : Str) (x : α) (y : Str) : (putL l z x).lookup y = if y = z then some x else l.lookup y := by
  by_cases hz : z ∈ l.map (·.1)
  · rw [putL_old x hz]
    have key : ∀ l : List (Str × α), (l.map fun p => if p.1 = z then (p.1, x) else p).lookup y = if y = z then (if z ∈ l.map (·.1) then some x else none) else l.lookup y := by
      intro l
      induction l with
      | nil => by_cases e : y = z <;> simp [e]
      | cons p r ih =>
        rw [List.map_cons, List.lookup_cons, List.lookup_cons, ih]
        by_cases ep : p.1 = z
        · rw [if_pos ep]
          by_cases e : y = z
          · have : (y == p.1) = true := by rw [e, ep]; exact beq_self_eq_true z
            simp [e, ep]
          · have : (y == p.1) = false := by rw [ep]; exact beq_eq_false_iff_ne.mpr e
            simp [e, this]
        · rw [if_neg ep]
          by_cases e : y = z
          · have h2 : (y == p.1) = false := by rw [e]; exact beq_eq_false_iff_ne.mpr fun q => ep q.symm
            have h3 : (z ∈ (p :: r).map (·.1)) ↔ z ∈ r.map (·.1) := by
              rw [List.map_cons, List.mem_cons]
              exact ⟨fun h => h.resolve_left fun q => ep q.symm, .inr⟩
            rw [h2]
            simp only [e, if_true]
            by_cases h4 : z ∈ r.map (·.1)
            · rw [if_pos h4, if_pos (h3.mpr h4)]
            · rw [if_neg h4, if_neg fun q => h4 (h3.mp q)]
          · simp only [e, if_false]
    rw [key l, if_pos hz]
  · rw [putL_new x hz, List.lookup_append]
    by_cases e : y = z
    · rw [if_pos e, e, lookup_none hz]
      simp
    · rw [if_neg e]
      cases hl : l.lookup y with
      | some v => rfl
      | none =>
        have e2 : (y == z) = false := beq_eq_false_iff_ne.mpr e
        simp [List.lookup, e2]
theorem putL_keys2 {α β : Type} {l : List (Str × α)} {m : List (Str × β)} (h : m.map (·.1) = l.map (·.1)) (z : Str) (x : α) (y : β) : (putL m z y).map (·.1) = (putL l z x).map (·.1) := by
  by_cases hz : z ∈ l.map (·.1)
  · rw [putL_keys x hz, putL_keys y (by rw [h]; exact hz), h]
  · rw [putL_new x hz, putL_new y (by rw [h]; exact hz), List.map_append, List.map_append, h]
    rfl
theorem putL_pos {α : Type} (l : List (Str × α)) (z : Str) (x : α) : 1 ≤ (putL l z x).length := by
  by_cases hz : z ∈ l.map (·.1)
  · rw [putL_old x hz, List.length_map]
    cases l with
    | nil => cases hz
    | cons p r => exact Nat.succ_le_succ (Nat.zero_le _)
  · rw [putL_new x hz, List.length_append]
    exact Nat.le_add_left _ _
/-! ### heaps without the pool -/
theorem but_wo {p : Addr} {H H' : Hp} (b : But p H H') : L2.Same (wo H p) (wo H' p) := fun x o e => by
  by_cases h : x = p
  · subst h
    rw [wo_at] at e
    cases e
  · rw [wo_ne h] at e ⊢
    exact b x o e h
theorem wo_upd_ne {H : Hp} {p D : Addr} {u : HO} (h : D ≠ p) : wo (upd H D u) p = upd (wo H p) D u := by
  funext b
  by_cases e : b = p
  · subst e
    rw [wo_at, upd_ne (Ne.symm h), wo_at]
  · rw [wo_ne e]
    by_cases e2 : b = D
    · subst e2
      rw [upd_same, upd_same]
    · rw [upd_ne e2, upd_ne e2, wo_ne e]
theorem wo_none {H : Hp} {p a : Addr} (h : H a = none) : wo H p a = none := by
  by_cases e : a = p
  · rw [e]; exact wo_at
  · rw [wo_ne e]; exact h
theorem wo_some {H : Hp} {p a : Addr} {o : HO} (h : wo H p a = some o) : H a = some o ∧ a ≠ p := by
  by_cases e : a = p
  · rw [e, wo_at] at h
    cases h
  · rw [wo_ne e] at h
    exact ⟨h, e⟩
end Ox
namespace Ox
open PySem PySem.Spec PyProof.Rows L2
theorem same_made {H H1 H' : Hp} {x dx C : Addr} (s : L2.Same H H1) (nx : H1 x = none) (nd : H1 dx = none) (k : ∀ b o, (upd (upd H1 dx (.own x)) x (.ins C dx [])) b = some o → b ≠ x → H' b = some o) : L2.Same H H' := fun b o e => by
  have e1 := s b o e
  exact k b o (by rw [upd_ne (ne_of_none e1 nx), upd_ne (ne_of_none e1 nd)]; exact e1) (ne_of_none e1 nx)
end Ox

/-! Own layer, fourth part: enumerate(row), the row a list or a tuple. -/
namespace Ox
open PySem PySem.Spec PyProof.Rows L2
theorem meets_enum1 {v : Value} {o : Obj} {Hh : Heap → Prop} (B : Begins v o Hh) :
    Meets (Builtin.«enumerate.__new__» ⟨[.type "enumerate", v], []⟩) (fun _ R s => Hh s.heap ∧
      R (.ok (.ret (.ref (s.heap.push o).objs.size))) { s with heap := (s.heap.push o).push { cls := .type "enumerate", data := .fields #[.none, .bool false, .ref s.heap.objs.size, rawInt 0, .none, .none] } }) :=
  .of_wp fun prog w A R s h => by
    obtain ⟨hp, gs, dr, tk, os⟩ := s
    obtain ⟨h1, h2⟩ := h
    have hsub := sub_enumerate
    have q1 : ∀ {A' : Around} {E : Value → Shared → Prop} {Q : Value → Shared → Prop}, Q (.ref hp.objs.size) ⟨hp.push o, gs, dr, tk, os⟩ → wpAny (model prog w) A' (pyIter v) Q E ⟨hp, gs, dr, tk, os⟩ := fun q => B.iter prog w _ _ ⟨hp, gs, dr, tk, os⟩ _ h1 q
    wp_walk using q1
    refine wpAny_stack_any fun st => wpAny_pure ?_
    split
    · rename_i c _ _ _ _ _
      cases (c == Value.type "enumerate") <;> (wp_walk using q1; exact ⟨_, rfl, h2⟩)
    · wp_walk using q1; exact ⟨_, rfl, h2⟩
section
variable {prog : Program} {w : World} {A : Around} {E : Value → Shared → Prop} {s : Shared}
theorem enum1_begins {v : Value} {o : Obj} {Hh : Heap → Prop} {Q : Value → Shared → Prop} (B : Begins v o Hh) (h1 : Hh s.heap)
    (h : ∀ h', IsEnum h' (s.heap.objs.size + 1) s.heap.objs.size 0 .none → h'.get? s.heap.objs.size = some o → h'.objs.size = s.heap.objs.size + 2 → (∀ b o, s.heap.get? b = some o → h'.get? b = some o) → Q (.ref (s.heap.objs.size + 1)) { s with heap := h' }) :
    wpAny (model prog w) A (call (.type "enumerate") [v]) Q E s := by
  refine callType_new F.called_enumerate (by decide) (F.typeCall_enumerate_1 _) (F.newCall_enumerate_1 _) (fun obj => F.args_object_init_2 obj _) F.entry_enumerate_new (meets_enum1 B) ⟨h1, ?_⟩
  have hz : (s.heap.push o).objs.size = s.heap.objs.size + 1 := Heap.size_push ..
  show _ ∧ _
  rw [hz]
  have he : IsEnum ((s.heap.push o).push { cls := .type "enumerate", data := .fields #[.none, .bool false, .ref s.heap.objs.size, rawInt 0, .none, .none] }) (s.heap.objs.size + 1) s.heap.objs.size 0 .none := by
    have e := Heap.get?_push_size (s.heap.push o) (o := { cls := .type "enumerate", data := .fields #[.none, .bool false, .ref s.heap.objs.size, rawInt 0, .none, .none] }) rfl
    rw [hz] at e; exact e
  refine ⟨⟨_, he, rfl⟩, h _ he (Heap.get?_push_of_some _ (Heap.get?_push_size _ B.free)) (by rw [Heap.size_push, hz]) ?_⟩
  exact fun b ob x => Heap.get?_push_of_some _ (Heap.get?_push_of_some _ x)
end
/-- the tuple at a as it stands at each turn, each item in a new pair -/
def IteT (K : PySem.W.Frag) (a : Addr) : It :=
  ⟨fun i H => ∃ (xs : List V) (x : V), SqT K H a xs ∧ xs[i]? = some x, fun i H v H' => ∃ T x, v = .ref T ∧ H T = none ∧ H' = upd H T (.tup [.int (i : Nat), x]) ∧ ∀ xs, SqT K H a xs → xs[i]? = some x, fun i H => ∃ xs : List V, SqT K H a xs ∧ xs.length = i⟩
theorem turn_enumT {P : Program} {w : World} {K : PySem.W.Frag} {elts : List Expr} {kk : Nat} {tpos : Pos} (a e it : Addr) :
    Turn P w K (.Tuple elts kk tpos) (IteT K a) [e, it] e (fun i h => (∃ old, IsEnum h e it ((i : Nat) : Int) old) ∧ h.IsTupleIter it a i ∧ e ≠ it) where
  mem := by simp
  obj := fun i h st b hb => by
    obtain ⟨⟨old, he⟩, ⟨o, ho, hc, hd⟩, _⟩ := st
    rcases (show b = e ∨ b = it by simpa using hb) with z | z <;> rw [z]
    · exact ⟨_, he, fun v q => nomatch q⟩
    · exact ⟨o, ho, fun v q => by rw [hd] at q; cases q⟩
  keep := fun i h h' st k => ⟨st.1.imp fun old he => k e (by simp) _ he, st.2.1.at fun o q => k it (by simp) o q, st.2.2⟩
  item := by
    intro X hP hw hK hc i pins s σ H E I hf st hg; subst hP hw hK
    obtain ⟨⟨old, he⟩, hit, hne⟩ := st; obtain ⟨xs, x, hq, hx⟩ := hg
    obtain ⟨its, rv, p, hz⟩ := I.tuple hq
    have hT0 : s.heap.IsTuple a its.toArray := p
    obtain ⟨u, hu, ru⟩ := rv.get hx
    have hel : e < s.heap.objs.size := Heap.lt_size he
    have hil : it < s.heap.objs.size := by obtain ⟨_, q, _⟩ := hit; exact Heap.lt_size q
    have hai : a ≠ it := fun z => by
      obtain ⟨o1, q1, c1, _⟩ := hit; obtain ⟨o2, q2, c2, _⟩ := hT0
      rw [z, q1] at q2; cases q2; rw [c1] at c2; injection c2 with c3; exact absurd c3 (by decide)
    have hea : e ≠ a := fun z => by
      obtain ⟨o2, q2, c2, _⟩ := hT0
      rw [← z, show s.heap.get? e = _ from he] at q2; cases q2; injection c2 with c3; exact absurd c3 (by decide)
    have hh : X.A.in1.handled = none := I.ok.hd hc
    have hlt : i < its.toArray.size := by
      have := (List.getElem?_eq_some_iff.mp hu).1
      simpa using this
    refine wpAny_pyNext_enum_itemD (Draws.tuple hh it a hai its.toArray) he ⟨hit, hT0⟩ hlt hne (by simp [hne, hea]) fun y h' tk hy ho hst' hT hsz hk => ?_
    have ey : y = u := by
      have e1 : its.toArray[i]? = some u := by simpa using hu
      rw [e1] at hy
      exact (Option.some.inj hy).symm
    subst ey
    refine ⟨_, rfl, wpAny_letOwnedTupleGo_enum (s := { s with heap := h', toks := tk + 1 }) ho fun h'' he' sb => ?_⟩
    have hT2 : h''.get? s.heap.objs.size = some { cls := .type "tuple", data := .seq #[.int i tk, y] } := (sb.2 _ (Nat.ne_of_gt hel)).trans hT
    have new : ObjOk X.prog X.w (upd H s.heap.objs.size (.tup [.int (i : Nat), x])) h'' s.heap.objs.size (.tup [.int (i : Nat), x]) := ⟨by show 2 ≤ sizeLine; decide, [.int i tk, y], .cons ⟨_, rfl⟩ (.cons ru .nil), ⟨_, hT2, rfl, _, rfl⟩⟩
    have I1 : Inv X pins σ (upd H s.heap.objs.size (.tup [.int (i : Nat), x])) { s with heap := h'', toks := tk + 1 } :=
      I.turnedNew (ch := [e, it]) (fun b ob hb q => (sb.2 b (fun z => hb (by rw [z]; simp))).trans (hk b ob (fun z => hb (by rw [z]; simp)) (fun z => hb (by rw [z]; simp)) q)) hf (Nat.le_refl _) new
    refine ⟨.ref s.heap.objs.size, _, I1, rfl, ⟨_, x, rfl, I.hok.fresh (Nat.le_refl _), rfl, fun ys hy => by rw [I.tuple_inj hy hq]; exact hx⟩, ⟨⟨y, ?_⟩, hst'.1.at fun o q => (sb.2 it (Ne.symm hne)).trans q, hne⟩, fun b hb => ?_⟩
    · rw [show ((i + 1 : Nat) : Int) = (i : Int) + 1 by omega]; exact he'
    · have hb' : b < s.heap.objs.size := by rcases (show b = e ∨ b = it by simpa using hb) with z | z <;> (rw [z]; assumption)
      rw [upd_ne (Nat.ne_of_lt hb')]; exact (hf b hb).1
  done := by
    intro X hP hw hK hc i pins s σ H E I hf st hg; subst hP hw hK
    obtain ⟨⟨old, he⟩, hit, hne⟩ := st; obtain ⟨xs, hq, hx⟩ := hg
    obtain ⟨its, rv, p, hz⟩ := I.tuple hq
    have hT0 : s.heap.IsTuple a its.toArray := p
    obtain ⟨f0, f1, f2, f3, f4, f5⟩ := hf it (by simp)
    have hai : a ≠ it := fun z => by
      obtain ⟨o1, q1, c1, _⟩ := hit; obtain ⟨o2, q2, c2, _⟩ := hT0
      rw [z, q1] at q2; cases q2; rw [c1] at c2; injection c2 with c3; exact absurd c3 (by decide)
    have hh : X.A.in1.handled = none := I.ok.hd hc
    have hl := rv.length
    have hea : e ≠ a := fun z => by
      obtain ⟨o2, q2, c2, _⟩ := hT0
      rw [← z, show s.heap.get? e = _ from he] at q2; cases q2; injection c2 with c3; exact absurd c3 (by decide)
    have hn : its.toArray.size = i := by simp; omega
    subst hn
    exact wpAny_pyNext_enum_endD (Draws.tuple hh it a hai its.toArray) he ⟨hit, hT0⟩ fun h' eb => ⟨rfl, I.turned (t' := s.toks) (fun b o hb q => eb b o hb q) f0 f1 f3 f4 f5⟩
  self := fun A i s Q E st h => st.1.elim fun old he => wpAny_pyIter_enum he h
def iEnumT (K : PySem.W.Frag) (ta : TA) : TI := fun σ H R => ta σ H fun vs H1 => ∃ a xs, vs = [.ref a] ∧ ((SqL K H1 a xs ∧ R (Ite K a) H1) ∨ (SqT K H1 a xs ∧ R (IteT K a) H1))
theorem pi_enumT {X : Cx} {e : Expr} {ta : TA} {p pos tpos : Pos} {elts : List Expr} {kk : Nat} (hg : Gl X "enumerate") (hm : X.mg "enumerate" = none) (ha : PA X [e] ta) (hs : starEach [e] X.env = [(false, eval e X.env)] := by rfl) :
    PI X (.Tuple elts kk tpos) (.Call (.Name "enumerate" p) [e] [] pos) (iEnumT X.K ta) := by
  constructor; intro pins s σ H R I h
  refine Call_ (ld_blt I hg hm boot_enumerate (PyProof.Rows.callWith_type1 (thn (ha.run pos pins s σ H _ I h) fun us s1 ⟨vs, H1, I1, r1, q1⟩ => ?_) hs rfl))
  obtain ⟨a, xs, ex, hq⟩ := q1; subst ex
  obtain ⟨u, rfl, ru⟩ := vals1 r1
  cases ru
  have fresh : ∀ b, b = s1.heap.objs.size + 1 ∨ b = s1.heap.objs.size → FpOk X pins H1 b := fun b hb => by
    have hle : s1.heap.objs.size ≤ b := by rcases hb with z | z <;> rw [z] <;> omega
    exact I1.fpOk hle (I1.hok.fresh hle)
  rcases hq with ⟨hq, q⟩ | ⟨hq, q⟩
  · obtain ⟨its, rv, p', hz⟩ := I1.list hq
    refine call_enumerate_list p'.isList fun h' he hit hsz hk => wpAny_pyIter_enum he ⟨s1.heap.objs.size + 1, [s1.heap.objs.size + 1, s1.heap.objs.size], _, _, H1, rfl, I1.kept (t' := s1.toks) hk, turn_enum a (s1.heap.objs.size + 1) s1.heap.objs.size, ⟨⟨.none, he⟩, hit, Nat.succ_ne_self _⟩, fun b hb => fresh b (by simpa using hb), q⟩
  · obtain ⟨its, rv, p', hz⟩ := I1.tuple hq
    refine enum1_begins (begins_tuple a its.toArray) p' fun h' he hit hsz hk => wpAny_pyIter_enum he ⟨s1.heap.objs.size + 1, [s1.heap.objs.size + 1, s1.heap.objs.size], _, _, H1, rfl, I1.kept (t' := s1.toks) hk, turn_enumT a (s1.heap.objs.size + 1) s1.heap.objs.size, ⟨⟨.none, he⟩, ⟨_, hit, rfl, rfl⟩, Nat.succ_ne_self _⟩, fun b hb => fresh b (by simpa using hb), q⟩
/-! ### the loop over it -/
def LpE (K : PySem.W.Frag) (g : TG) (tb : TS) (D : Ends) (σ : L2.St) (vs : List V) (H : Hp) : Prop := ∃ a xs, vs = [.ref a] ∧ ((SqL K H a xs ∧ Lp (Ite K a) g tb D σ H) ∨ (SqT K H a xs ∧ Lp (IteT K a) g tb D σ H))
section
variable {σ : L2.St} {H : Hp} {n : L2.St → Hp → Prop} {r : VK} {b c : L2.St → Hp → Prop} {tb : TS} {g : TG} {K : PySem.W.Frag} {al : TA} {p : Addr}
theorem x_forE (h : al σ H fun x H1 => LpE K g tb ⟨n, r, b, c⟩ σ x H1) : tFor (iEnumT K al) g tb ⟨n, r, b, c⟩ σ H := h
/-- a list or a tuple -/
def SqR (K : PySem.W.Frag) (H : Hp) (a : Addr) (xs : List V) : Prop := SqL K H a xs ∨ SqT K H a xs
theorem lpE {xs : List V} (Pv : Nat → L2.St → Hp → Prop) (h : (∀ σ' H' i, i ≤ xs.length → Pv i σ' H' → SqL K H' p xs) ∨ (∀ σ' H' i, i ≤ xs.length → Pv i σ' H' → SqT K H' p xs)) (h0 : Pv 0 σ H)
    (hs : ∀ i x σ H T, xs[i]? = some x → Pv i σ H → H T = none → g (.ref T) σ (upd H T (.tup [.int (i : Nat), x])) fun σ2 H2 => tb ⟨Pv (i + 1), r, n, Pv (i + 1)⟩ σ2 H2) (hd : ∀ σ H, Pv xs.length σ H → n σ H) : LpE K g tb ⟨n, r, b, c⟩ σ [.ref p] H := by
  rcases h with h | h
  · refine ⟨p, xs, rfl, .inl ⟨h σ H 0 (Nat.zero_le _) h0, fun i k σ H => k = xs.length - i ∧ i ≤ xs.length ∧ Pv i σ H, ⟨_, rfl, Nat.zero_le _, h0⟩, ?_⟩⟩
    rintro i k σ1 H1 ⟨rfl, hi, hp⟩
    have q := h σ1 H1 i hi hp
    by_cases hlt : i < xs.length
    · refine .inr ⟨⟨xs, xs[i], q, by simp [hlt]⟩, Pv (i + 1), fun σ' H' p' => ⟨xs.length - (i + 1), by omega, rfl, hlt, p'⟩, fun x H' y => ?_⟩
      obtain ⟨T, v, rfl, hT, rfl, hv⟩ := y
      exact hs i v σ1 H1 T (hv xs q) hp hT
    · have e : i = xs.length := by omega
      subst e
      exact .inl ⟨⟨xs, q, Nat.le_refl _⟩, hd σ1 H1 hp⟩
  · refine ⟨p, xs, rfl, .inr ⟨h σ H 0 (Nat.zero_le _) h0, fun i k σ H => k = xs.length - i ∧ i ≤ xs.length ∧ Pv i σ H, ⟨_, rfl, Nat.zero_le _, h0⟩, ?_⟩⟩
    rintro i k σ1 H1 ⟨rfl, hi, hp⟩
    have q := h σ1 H1 i hi hp
    by_cases hlt : i < xs.length
    · refine .inr ⟨⟨xs, xs[i], q, by simp [hlt]⟩, Pv (i + 1), fun σ' H' p' => ⟨xs.length - (i + 1), by omega, rfl, hlt, p'⟩, fun x H' y => ?_⟩
      obtain ⟨T, v, rfl, hT2, rfl, hv⟩ := y
      exact hs i v σ1 H1 T (hv xs q) hp hT2
    · have e : i = xs.length := by omega
      subst e
      exact .inl ⟨⟨xs, q, rfl⟩, hd σ1 H1 hp⟩
end
end Ox
namespace Ox
open PySem PySem.Spec PyProof.Rows L2
/-! ### methods -/
section
variable {X : Cx} {k : Nat} {C : Addr} {m : Str} {ps : List Str} {sp : Sp} {o e : Expr} {es : List Expr} {ta : TE} {t : TA} {apos pos : Pos} {pl : Sem Bool}
theorem pe_mt (M : Met X.prog X.w X.K X.mg X.base C k m ps sp) (kc : Cls X.K C) (hr : Room k X.A) (he : PE X o ta) (ha : PA X (e :: es) t)
    (hst : starEach (e :: es) X.env = (false, eval e X.env) :: starEach es X.env := by rfl) (hpl : (backTo pos (starEach es X.env)).any (·.1) = false := by rfl)
    (ht : eval (.Call (.Attribute o m apos) (e :: es) [] pos) X.env = (do let ov ← eval o X.env; standAt apos.atName; let (f, first) ← holding [ov] (getMethod ov m pl); callWith pos f first (backTo pos (starEach (e :: es) X.env)) (backToKw pos (keywordEach [] X.env))) := by rfl) :
    PE X (.Call (.Attribute o m apos) (e :: es) [] pos) (tMeth C m sp [] E0 ta t) := by
  obtain ⟨f, fd, mt, F, hb⟩ := M.ex
  exact pe_meth he kc mt F hr hb .nil pass0 ha hst hpl ht
end
def rMtA (C : Addr) (m : Str) (x : V) (H : Hp) (Z : Prop) : Prop := ∃ a dx fs, x = .ref a ∧ H a = some (.ins C dx fs) ∧ fs.lookup m = none ∧ Z
section
variable {σ : L2.St} {H : Hp} {Q : VK} {ta : TE} {al : TA} {C : Addr} {m : Str} {sp : Sp} {K : PySem.W.Frag}
theorem x_mt (h : ta σ H fun x H1 => rMtA C m x H1 (al σ H1 fun vs H2 => sp (x :: vs) H2 Q E0)) : tMeth C m sp [] E0 ta al σ H Q := by
  show ta σ H fun x H1 => ∃ a dx fs, x = .ref a ∧ H1 a = some (.ins C dx fs) ∧ fs.lookup m = none ∧ al σ H1 fun vs H2 => sp (x :: (vs ++ [])) H2 Q E0
  have e : (fun (x : V) (H1 : Hp) => ∃ a dx fs, x = .ref a ∧ H1 a = some (.ins C dx fs) ∧ fs.lookup m = none ∧ al σ H1 fun vs H2 => sp (x :: (vs ++ [])) H2 Q E0) = fun x H1 => rMtA C m x H1 (al σ H1 fun vs H2 => sp (x :: vs) H2 Q E0) := by
    funext x H1
    have e2 : (fun (vs : List V) (H2 : Hp) => sp (x :: (vs ++ [])) H2 Q E0) = fun vs H2 => sp (x :: vs) H2 Q E0 := by
      funext vs H2
      rw [List.append_nil]
    rw [e2]
    rfl
  rw [e]
  exact h
theorem x_mti {a dx : Addr} {fs : List (Str × V)} {Z : Prop} (h : H a = some (.ins C dx fs)) (hl : fs.lookup m = none) (q : Z) : rMtA C m (.ref a) H Z := ⟨a, dx, fs, rfl, h, hl, q⟩
/-! ### isinstance(x, (list, tuple)) -/
theorem x_isiLT {x : V} {k : Kn} {tp : Addr} (h : Kd K H x k) (ht : H tp = some (.tup [.ty "list", .ty "tuple"])) (q : Q (.bl (isB k .lst || isB k .tup)) H) : rIsiT K [x, .ref tp] H Q := by
  refine ⟨x, tp, _, _, _, _, rfl, ht, .cons (.ty "list") (.cons (.ty "tuple") .nil), h.tyx, ?_, q⟩
  cases k <;> rfl
end
/-! ### x[i], x a list or a tuple -/
def rIxQ (K : PySem.W.Frag) : R2 := fun x y H Q => rIxL K x y H Q ∨ rIxT K x y H Q
theorem ix_seq {X : Cx} : IxR X (rIxQ X.K) := fun a b pins s σ H x y v u Q I rx ry h hs => h.elim (fun h => ix_list a b pins s σ H x y v u Q I rx ry h hs) fun h => ix_tup a b pins s σ H x y v u Q I rx ry h hs
theorem ix_seqK {X : Cx} {K : PySem.W.Frag} (e : X.K = K := by rfl) : IxR X (rIxQ K) := e ▸ ix_seq
theorem x_ixq {K : PySem.W.Frag} {H : Hp} {Q : VK} {p : Addr} {xs : List V} {k : Int} {v : V} (j : Nat) (h : SqR K H p xs) (hk : k = (j : Int)) (ha : xs[j]? = some v) (q : Q v H) : rIxQ K (.ref p) (.int k) H Q :=
  h.elim (fun h => .inl (x_ixl j h hk ha q)) fun h => .inr (x_ixt j h hk ha q)
theorem x_lenQ {K : PySem.W.Frag} {H : Hp} {Q : VK} {p : Addr} {xs : List V} (h : SqR K H p xs) (q : Q (.int xs.length) H) : rLenA K [V.ref p] H Q := h.elim (fun h => x_lenL h q) fun h => x_lenT h q
theorem x_listQ {K : PySem.W.Frag} {H : Hp} {Q : VK} {p : Addr} {xs : List V} (h : SqR K H p xs) (q : ∀ l, H l = none → Q (.ref l) (upd H l (.lst xs))) : rListA K [V.ref p] H Q := h.elim (fun h => x_listL h q) fun h => x_listT h q
end Ox

namespace Ox
open PySem PySem.Spec PyProof.Rows L2
/-! sorted(d, reverse=True), d a dict with text keys: a permutation of its keys -/
def codesOf : Value → List Nat
  | .str z _ => z.cps.toList
  | _ => []
def textOf : Value → Str
  | .str z _ => z
  | _ => ""
def ltCodes (v u : Value) : Bool := decide (codesOf v < codesOf u)
theorem swo_codes : SrtO.Swo ltCodes := by
  refine ⟨fun x y h => ?_, fun x y z h1 h2 => ?_⟩
  · exact decide_eq_false (List.lt_asymm (of_decide_eq_true (p := codesOf x < codesOf y) h))
  · have a := of_decide_eq_false (p := codesOf y < codesOf x) h1
    have b := of_decide_eq_false (p := codesOf z < codesOf y) h2
    exact decide_eq_false (p := codesOf z < codesOf x) (List.not_lt.mpr (List.le_trans (List.not_lt.mp a) (List.not_lt.mp b)))
theorem texts_in : ∀ {vs : List Value} {ks : List Str}, StrsAre vs ks → ∀ v ∈ vs, ∃ z t, v = Value.str z t := by
  intro vs ks h
  induction h with
  | nil => exact fun v hv => by cases hv
  | cons z t _ ih =>
    intro v hv
    rcases List.mem_cons.mp hv with rfl | hv
    · exact ⟨z, t, rfl⟩
    · exact ih v hv
theorem texts_of : ∀ {vs : List Value} {ks : List Str}, StrsAre vs ks → vs.map textOf = ks := by
  intro vs ks h
  induction h with
  | nil => rfl
  | cons z t _ ih =>
    rw [List.map_cons, ih]
    rfl
theorem texts_are : ∀ {vs : List Value}, (∀ v ∈ vs, ∃ z t, v = Value.str z t) → StrsAre vs (vs.map textOf) := by
  intro vs
  induction vs with
  | nil => exact fun _ => .nil
  | cons v r ih =>
    intro h
    obtain ⟨z, t, rfl⟩ := h v List.mem_cons_self
    exact .cons z t (ih fun u hu => h u (List.mem_cons_of_mem _ hu))
theorem texts_sortable {prog : Program} {w : World} {A : Around} {s : Shared} {a : Addr} {vs : List Value} {ks : List Str} (hT : StrsAre vs ks) (h2 : 2 ≤ vs.length) : SrtO.SortableO prog w A s a vs ltCodes := by
  intro h1 _
  refine ⟨oneType', fun Q E hq => ?_, fun p q hp hq => ?_⟩
  · obtain ⟨v1, v2, rest, rfl⟩ : ∃ v1 v2 rest, vs = v1 :: v2 :: rest := by
      cases vs with
      | nil => simp at h2
      | cons v1 r =>
        cases r with
        | nil => simp at h2
        | cons v2 r => exact ⟨v1, v2, r, rfl⟩
    rw [keyKind_strs hT]
    exact wpAny_pure hq
  · obtain ⟨x, t, ex⟩ := texts_in hT _ hp
    obtain ⟨y, u, ey⟩ := texts_in hT _ hq
    change wpAny (model prog w) A (keyLt' oneType' p.1 q.1) (fun r s1 => s1 = _ ∧ r = ltCodes p.1 q.1) (fun _ _ => False) _
    rw [ex, ey, keyLt'_oneType]
    exact oneLt_str ⟨rfl, rfl⟩
def rSortRev : List V → List V → Hp → VK → Prop := fun xs zs H Q => ∃ (d : Addr) (kvs : List (Key × V)) (ks : List Str), xs = [.ref d] ∧ zs = [.bl true] ∧ Rd H d (.dK kvs) ∧ kvs.map (·.1) = ks.map Sum.inr ∧ ks.length ≤ 10000 ∧
  ∀ (ys : List Str) (p : Addr), ys.Perm ks → H p = none → Q (.ref p) (upd H p (.lst (ys.map V.str)))
theorem call_sortRev {X : Cx} (calm : X.calm = true) : CallRK X (.builtin "sorted") [Str.ofString "reverse"] rSortRev := by
  intro pn st σ H args kws us ws Q I ra rk hq
  obtain ⟨d, kvs, ks, rfl, rfl, rd, ek, len, fin⟩ := hq
  obtain ⟨ud, rfl, rud⟩ := vals1 ra
  cases rud
  obtain ⟨w1, rfl, e1⟩ := vals1 rk
  obtain rfl : w1 = Value.bool true := e1
  obtain ⟨_, low, rows, rowsR, isd⟩ := dk_rd I.hok rd
  obtain ⟨epoch, atd⟩ := isd.dictAt
  have keyE : rows.map Prod.fst = ks.map Sum.inr := Eq.trans rowsR.keys.symm ek
  have lenE : rows.length = ks.length := by
    have t := congrArg List.length keyE
    simpa using t
  have line : ks.length ≤ sizeLine := by rw [sizeLine_eq]; omega
  refine call_function_entry_kw kind_sorted plain_sorted entry_sorted (args_sorted_rev _ _) ?_
  unfold Builtin.«sorted»
  refine wpAny_bind (m := checkCount "sorted" 1 1 _) (wpAny_pure (wpAny_bind (PySem.W.kdu_collect (A := X.A.in1) (PySem.W.kdl_dict (knd := mixKind X.prog X.w) (kvs := rows) (ep := epoch) low) (I.ok.hd calm) atd (by rw [lenE]; exact line) fun h1 t1 got keep isgot => ?_)))
  have gotL : got.toList.length = ks.length := (Array.length_toList ..).trans (isgot.1.trans lenE)
  have texts : StrsAre got.toList ks := strs_at gotL fun j v ev => by
    obtain ⟨key, _, er, ki⟩ := isgot.2 j v (by rw [← Array.getElem?_toList]; exact ev)
    have ekj : (ks.map Sum.inr)[j]? = some key := by rw [← keyE, List.getElem?_map, er]; rfl
    rw [List.getElem?_map] at ekj
    cases ez : ks[j]? with
    | none => rw [ez] at ekj; cases ekj
    | some z =>
      rw [ez] at ekj
      cases ekj
      obtain ⟨t, et⟩ := Value.isStrOf_shape (x := z) (v := v) ki
      exact ⟨z, t, rfl, et⟩
  have J : Inv X pn σ H { st with heap := h1, toks := t1 } := I.kept keep
  refine wpAny_bind (wpAny_newList ?_ (by rw [gotL]; rw [sizeLine_eq] at line; exact line))
  have isl : (h1.push (seqObj "list" got.toList.toArray 0)).get? h1.objs.size = some (seqObj "list" got.toList.toArray 0) := Heap.get?_push_size _ rfl
  change wpAny _ _ _ _ _ { st with heap := h1.push (seqObj "list" got.toList.toArray 0), toks := t1 }
  refine wpAny_bind (wpAny_holding (wpAny_call_entry_kw slot_list_sort ⟨_, isl, rfl⟩ entry_list_sort ?_ (args_list_sort_rev _ _)))
  refine SrtR.list_sort_ordR swo_codes isl (by rw [gotL]; exact line) (fun h2 => texts_sortable texts h2) fun out _ stable => ⟨_, rfl, ?_⟩
  have pm : out.Perm got.toList := stable.perm.trans (List.reverse_perm _)
  have outT : StrsAre out.reverse (out.reverse.map textOf) := texts_are fun v hv => texts_in texts v (pm.mem_iff.mp (List.mem_reverse.mp hv))
  have outP : (out.reverse.map textOf).Perm ks := by
    have t := ((List.reverse_perm out).trans pm).map textOf
    rw [texts_of texts] at t
    exact t
  obtain ⟨ep2, at2⟩ := sortedHeap_at (vs := got.toList) (out := out.toArray.reverse) isl
  have ylen : ((out.reverse.map textOf).map V.str).length ≤ sizeLine := by rw [List.length_map, outP.length_eq]; exact line
  have eo : out.reverse.toArray = out.toArray.reverse := by simp
  have laid := fun kept => J.laid (t' := t1) kept (Nat.le_refl h1.objs.size) (show ObjOk X.prog X.w _ _ _ (.lst ((out.reverse.map textOf).map V.str)) from ⟨ylen, out.reverse, ep2, vals_of_strs outT, by rw [eo]; exact at2⟩)
  refine wpAny_pure ⟨_, rfl, .ref h1.objs.size, _, laid fun b u eb => ?_, rfl, fin _ _ outP (J.hok.fresh (Nat.le_refl _))⟩
  have small := Heap.lt_size eb
  rw [sortedHeap_old (Nat.ne_of_lt small) (by rw [size_push']; exact Nat.lt_succ_of_lt small)]
  exact Heap.get?_push_of_some _ eb
end Ox

/-! Own layer, fifth part: tuple(d), a walk over a list or a tuple, dicts of data compared. -/
namespace Ox
open PySem PySem.Spec PyProof.Rows L2
/-! ### tuple(d) -/
section
variable {prog : Program} {w : World} {A : Around} {s : Shared} {E : Value → Shared → Prop}
theorem code_tuple_new_dict {K : Type} [DecidableEq K] {knd : KeyKind prog w K} {kvs : List (K × Value)} {ep : Nat} {d : Addr} {Q₁ : Value → Shared → Prop} (lo : (d == sysModules) = false) (hh : A.handled = none) (hat : s.heap.DictAt knd d kvs ep) (hn : kvs.length ≤ sizeLine)
    (h : ∀ (h' : Heap) (tk : Nat) (acc : Array Value), (∀ b o, s.heap.get? b = some o → h'.get? b = some o) → ItemsOf (fun i v => ∃ k x, kvs[i]? = some (k, x) ∧ knd.is k v = true) acc kvs.length →
      Q₁ (.ref h'.objs.size) { s with heap := h'.push { cls := .type "tuple", data := .seq acc }, toks := tk }) :
    codeAny (model prog w) A (.call (.builtin "tuple.__new__") ⟨[.type "tuple", .ref d], []⟩) (wants Q₁ E) s := by
  refine codeAny_of_tree ?_
  show wpAny _ A.in1 (do checkBuiltinCall "tuple.__new__" ⟨[.type "tuple", .ref d], []⟩; again (.builtin "tuple.__new__" ⟨[.type "tuple", .ref d], []⟩)) _ _ s
  refine wpAny_bind (wpAny_of_eq (F.newCall_tuple_1 _) (wpAny_pure ⟨plainId_quiet F.plain_tuple_new _, codeAny_builtin F.entry_tuple_new ?_⟩))
  rw [Around.under_plainId F.plain_tuple_new _]
  have hsub := sub_tuple_self
  have hinit := init_tuple_lookup
  have hmh := madeHere_tuple
  have hTI : s.TypeIs (.ref d) "dict" := hat.dictOf.typeIs
  have hh1 : A.in1.handled = none := hh
  wp_walk using wpAny_typeOf hTI, PySem.W.kdu_collect (A := A.in1) (PySem.W.kdl_dict (knd := knd) (kvs := kvs) (ep := ep) lo) hh1 hat hn
  intro h' tk acc hk hacc
  show wpAny _ _ (Builtin.Tuple.tupleExact acc.toList.toArray >>= fun v => ret v) _ _ _
  unfold Builtin.Tuple.tupleExact
  refine wpAny_bind (wpAny_newObj_type ?_ (by show acc.toList.toArray.size ≤ sizeLine; simp only [Array.toArray_toList]; rw [hacc.1]; exact hn))
  refine wpAny_pure ?_
  have e : acc.toList.toArray = acc := by simp
  rw [e]
  exact h h' tk acc hk hacc
theorem call_tuple_dict {K : Type} [DecidableEq K] {knd : KeyKind prog w K} {kvs : List (K × Value)} {ep : Nat} {d : Addr} {Q : Value → Shared → Prop} (lo : (d == sysModules) = false) (hh : A.handled = none) (hat : s.heap.DictAt knd d kvs ep) (hn : kvs.length ≤ sizeLine)
    (hQ : ∀ (h' : Heap) (tk : Nat) (acc : Array Value), (∀ b o, s.heap.get? b = some o → h'.get? b = some o) → ItemsOf (fun i v => ∃ k x, kvs[i]? = some (k, x) ∧ knd.is k v = true) acc kvs.length →
      Q (.ref h'.objs.size) { s with heap := h'.push { cls := .type "tuple", data := .seq acc }, toks := tk }) :
    wpAny (model prog w) A (call (.type "tuple") [.ref d]) Q E s := by
  refine callType_codes (Q₁ := fun obj s₁ => s₁.TypeIs obj "tuple" ∧ Q obj s₁) F.called_tuple (F.typeCall_tuple_1 _) F.entry_object_init
    (code_tuple_new_dict (A := A.in1) lo hh hat hn fun h' tk acc hk hacc => ⟨⟨_, Heap.get?_push_size _ rfl, rfl⟩, hQ h' tk acc hk hacc⟩) fun obj s₁ h₁ => ?_
  exact ⟨h₁.1, F.args_object_init_2 obj _, object_init_meets F.called_tuple.init.lookup F.called_tuple.made (by decide) prog w A.in1 _ s₁ ⟨h₁.1, rfl, h₁.2⟩⟩
end
def rTupD : List V → Hp → VK → Prop := fun xs H Q => ∃ p kvs, xs = [.ref p] ∧ Rd H p (.dK kvs) ∧ ∀ q, H q = none → Q (.ref q) (upd H q (.tup (kvs.map fun kv => kV kv.1)))
theorem call_tupD {X : Cx} (hc : X.calm = true) : CallR X (.type "tuple") rTupD := by
  intro pins s σ H xs us Q I r h
  obtain ⟨p, kvs, e, hk, q⟩ := h
  subst e
  obtain ⟨u, eu, rx⟩ := vals1 r
  subst eu
  obtain rfl : u = Value.ref p := rx
  obtain ⟨z, lo, vs, rk, hd⟩ := dk_rd I.hok hk
  obtain ⟨ep, hat⟩ := hd.dictAt
  have hl : kvs.length = vs.length := Paired.length rk
  have hz : vs.length ≤ sizeLine := by rw [← hl]; exact z
  refine call_tuple_dict (knd := mixKind X.prog X.w) lo (I.ok.hd hc) hat hz fun h' tk acc hkeep hacc => ?_
  have I2 : Inv X pins σ H { s with heap := h', toks := tk } := I.kept hkeep
  refine ⟨.ref h'.objs.size, upd H h'.objs.size (.tup (kvs.map fun kv => kV kv.1)), ?_, rfl, q _ (I2.hok.fresh (Nat.le_refl _))⟩
  refine I2.laid (t' := tk) (fun b o e => Heap.get?_push_of_some _ e) (Nat.le_refl _) (show ObjOk X.prog X.w _ _ _ (.tup (kvs.map fun kv => kV kv.1)) from ?_)
  refine ⟨?_, acc.toList, ?_, ?_⟩
  · rw [List.length_map, hl]; exact hz
  · have el : acc.toList.length = acc.size := by simp
    refine vals_of_at (by rw [List.length_map, el, hacc.1, hl]) fun j x w h1 h2 => ?_
    obtain ⟨k, y, hky, hi⟩ := hacc.2 j w (by rw [← Array.getElem?_toList]; exact h2)
    have e1 : (kvs.map (·.1))[j]? = some k := by
      rw [KV.keys rk, List.getElem?_map, hky] <;> rfl
    have e2 : (kvs.map fun kv => kV kv.1)[j]? = some (kV k) := by
      have e3 : (kvs.map fun kv => kV kv.1) = (kvs.map (·.1)).map kV := by rw [List.map_map] <;> rfl
      rw [e3, List.getElem?_map, e1] <;> rfl
    rw [e2] at h1
    cases h1
    exact keyIs_rel hi
  · exact ⟨_, Heap.get?_push_size _ rfl, rfl, by simp⟩
end Ox
namespace Ox
open PySem PySem.Spec PyProof.Rows L2
/-! ### a list or a tuple, walked -/
def iSeq (K : PySem.W.Frag) (te : TE) : TI := fun σ H R => te σ H fun x H1 => ∃ a, x = .ref a ∧ (((∃ xs, SqL K H1 a xs) ∧ R (Itl K a) H1) ∨ ((∃ xs, SqT K H1 a xs) ∧ R (Itt K a) H1))
theorem pi_seq {X : Cx} {tg l : Expr} {tl : TE} (hl : PE X l tl) : PI X tg l (iSeq X.K tl) := by
  refine ⟨fun pins s σ H R I h => ?_⟩
  refine thn (hl.run pins s σ H _ I h) fun v s1 ⟨x, H1, I1, r1, q1⟩ => ?_
  obtain ⟨a, e, ⟨⟨xs, hq⟩, q⟩ | ⟨⟨xs, hq⟩, q⟩⟩ := q1
  · subst e
    cases r1
    obtain ⟨its, rv, p, hz⟩ := I1.list hq
    refine wpAny_pyIter_list p.isList ?_
    refine ⟨s1.heap.objs.size, [s1.heap.objs.size], _, _, H1, rfl, I1.kept (t' := s1.toks) fun b o e => Heap.get?_push_of_some _ e, turn_list a _, ⟨_, Heap.get?_push_size _ rfl, rfl, rfl⟩, fun b hb => ?_, q⟩
    have e : b = s1.heap.objs.size := by simpa using hb
    subst e
    exact I1.fpOk (Nat.le_refl _) (I1.hok.fresh (Nat.le_refl _))
  · subst e
    cases r1
    obtain ⟨its, rv, p, hz⟩ := I1.tuple hq
    refine wpAny_pyIter_tuple (show s1.heap.IsTuple a its.toArray from p) ?_
    refine ⟨s1.heap.objs.size, [s1.heap.objs.size], _, _, H1, rfl, I1.kept (t' := s1.toks) fun b o e => Heap.get?_push_of_some _ e, turn_tuple a _, ⟨_, Heap.get?_push_size _ rfl, rfl, rfl⟩, fun b hb => ?_, q⟩
    have e : b = s1.heap.objs.size := by simpa using hb
    subst e
    exact I1.fpOk (Nat.le_refl _) (I1.hok.fresh (Nat.le_refl _))
def RunSq (K : PySem.W.Frag) (R : It → Hp → Prop) (x : V) (H : Hp) : Prop := ∃ a, x = .ref a ∧ (((∃ xs, SqL K H a xs) ∧ R (Itl K a) H) ∨ ((∃ xs, SqT K H a xs) ∧ R (Itt K a) H))
section
variable {σ : L2.St} {H : Hp} {te : TE} {R : It → Hp → Prop} {K : PySem.W.Frag} {n : L2.St → Hp → Prop} {r : VK} {b c : L2.St → Hp → Prop} {tb : TS} {g : TG} {p : Addr}
theorem x_iSq (h : te σ H fun x H1 => RunSq K R x H1) : iSeq K te σ H R := h
def LpSq (K : PySem.W.Frag) (g : TG) (tb : TS) (D : Ends) (σ : L2.St) (x : V) (H : Hp) : Prop := RunSq K (fun J H1 => Lp J g tb D σ H1) x H
theorem x_forSq (h : te σ H fun x H1 => LpSq K g tb ⟨n, r, b, c⟩ σ x H1) : tFor (iSeq K te) g tb ⟨n, r, b, c⟩ σ H := h
theorem runSq {xs : List V} (h : SqR K H p xs) (q : ∀ (J : It) (G : Hp → Prop), (∀ H', L2.Same H H' → G H') → L2.Walk J xs.length G (L2.YAt xs) → R J H) : RunSq K R (.ref p) H := by
  rcases h with h | h
  · exact ⟨p, rfl, .inl ⟨⟨xs, h⟩, q _ (fun H' => SqL K H' p xs) (fun H' s => s.seq h) walk_list⟩⟩
  · exact ⟨p, rfl, .inr ⟨⟨xs, h⟩, q _ (fun H' => SqT K H' p xs) (fun H' s => same_t s h) walk_tup⟩⟩
end
end Ox
namespace Ox
open PySem PySem.Spec PyProof.Rows L2
/-! ### dicts compared, their values data -/
def DvAt (K : PySem.W.Frag) (H : Hp) (ks : List (Key × V)) (f : Key → PyData) : Prop := ∀ p ∈ ks, Dp K H p.2 (f p.1) ∧ SeqAt.shaped (f p.1) = true
def eqKB (ks ls : List (Key × V)) (f g : Key → PyData) : Bool := (ks.length == ls.length) && ks.all fun p => (valV ls p.1).isSome && PyData.eqv (f p.1) (g p.1)
def rEqDD (K : PySem.W.Frag) : R2 := fun x y H Q => ∃ a b ks ls f g, x = .ref a ∧ y = .ref b ∧ Rd H a (.dK ks) ∧ Rd H b (.dK ls) ∧ DvAt K H ks f ∧ DvAt K H ls g ∧ Q (.bl (eqKB ks ls f g)) H
def rNeDD (K : PySem.W.Frag) : R2 := fun x y H Q => ∃ a b ks ls f g, x = .ref a ∧ y = .ref b ∧ Rd H a (.dK ks) ∧ Rd H b (.dK ls) ∧ DvAt K H ks f ∧ DvAt K H ls g ∧ Q (.bl (!eqKB ks ls f g)) H
theorem valV_in {kvs : List (Key × V)} {k : Key} {v : V} (h : valV kvs k = some v) : (k, v) ∈ kvs := valV_mem h
theorem hitsD {X : Cx} {pins : List (Addr × Obj)} {σ : L2.St} {H : Hp} {s : Shared} (I : Inv X pins σ H s) {A : Around} (hu : A.units + 64 < cLine) {ls : List (Key × V)} {vb : List (Key × Value)} (rb : KV ls vb) {g f : Key → PyData} (hg : DvAt X.K H ls g) {ks : List (Key × V)} {va : List (Key × Value)} (ra : KV ks va) :
    DvAt X.K H ks f → PySem.W.KeqHits A s vb va (ks.all fun p => (valV ls p.1).isSome && PyData.eqv (f p.1) (g p.1)) := by
  unfold KV at ra
  induction ra with
  | nil => intro _; exact .nil
  | @cons p q ps qs h t ih =>
    intro hp
    obtain ⟨h1, h2⟩ := h
    obtain ⟨k, v⟩ := q
    have h1' : p.1 = k := h1
    have hd := hp p List.mem_cons_self
    cases e : valV ls p.1 with
    | none =>
      have rr : RelO none (valueAt vb p.1) := by rw [← e]; exact rb.val p.1
      have hn : valueAt vb k = none := by
        rw [← h1']
        cases hq : valueAt vb p.1 with
        | none => rfl
        | some y => rw [hq] at rr; exact rr.elim
      have eb : ((p :: ps).all fun p => (valV ls p.1).isSome && PyData.eqv (f p.1) (g p.1)) = false := by
        rw [List.all_cons, e]
        rfl
      rw [eb]
      exact .miss hn
    | some z =>
      have rr : RelO (some z) (valueAt vb p.1) := by rw [← e]; exact rb.val p.1
      obtain ⟨y, hy, ry⟩ := rr.some_of
      rw [h1'] at hy
      have hz := hg (p.1, z) (valV_in e)
      obtain ⟨as, r1⟩ := Dp.reads I (f p.1) p.2 v hd.1 h2
      obtain ⟨bs, r2⟩ := Dp.reads I (g p.1) z y hz.1 ry
      have eb : ((p :: ps).all fun p => (valV ls p.1).isSome && PyData.eqv (f p.1) (g p.1)) = (PyData.eqv (f p.1) (g p.1) && ps.all fun p => (valV ls p.1).isSome && PyData.eqv (f p.1) (g p.1)) := by
        rw [List.all_cons, e]
        rfl
      rw [eb]
      exact .hit hy (SeqAt.eqAt_reads _ _ A s v y as bs r1 r2 (SeqAt.canLay_of_shaped hd.2) (SeqAt.canLay_of_shaped hz.2) (SeqAt.room_of_shaped hd.2 hu)) (ih fun p' hm => hp p' (List.mem_cons_of_mem _ hm))
section
variable {X : Cx}
theorem op_eqDD (hu : X.A.units + 65 < cLine) : OpR X (compareOp .Eq) (rEqDD X.K) := by
  intro pins s σ H x y v u Q I rx ry h
  obtain ⟨a, b, ks, ls, f, g, rfl, rfl, ea, eb, hf, hg, q⟩ := h
  obtain rfl : v = Value.ref a := rx
  obtain rfl : u = Value.ref b := ry
  obtain ⟨_, ya, va, ra, da⟩ := dk_rd I.hok ea
  obtain ⟨_, yb, vb, rb, db⟩ := dk_rd I.hok eb
  have e : eqKB ks ls f g = (va.length == vb.length && ks.all fun p => (valV ls p.1).isSome && PyData.eqv (f p.1) (g p.1)) := by
    unfold eqKB
    rw [Paired.length ra, Paired.length rb]
  rw [e] at q
  exact PySem.W.keq_eq (knd := mixKind X.prog X.w) ya yb da db (by omega) (fun _ => hitsD I (by show X.A.units + 1 + 64 < cLine; omega) rb hg ra hf) ⟨.bl _, H, I, rfl, q⟩
theorem op_neDD (hu : X.A.units + 65 < cLine) : OpR X (compareOp .NotEq) (rNeDD X.K) := by
  intro pins s σ H x y v u Q I rx ry h
  obtain ⟨a, b, ks, ls, f, g, rfl, rfl, ea, eb, hf, hg, q⟩ := h
  obtain rfl : v = Value.ref a := rx
  obtain rfl : u = Value.ref b := ry
  obtain ⟨_, ya, va, ra, da⟩ := dk_rd I.hok ea
  obtain ⟨_, yb, vb, rb, db⟩ := dk_rd I.hok eb
  have e : eqKB ks ls f g = (va.length == vb.length && ks.all fun p => (valV ls p.1).isSome && PyData.eqv (f p.1) (g p.1)) := by
    unfold eqKB
    rw [Paired.length ra, Paired.length rb]
  rw [e] at q
  exact PySem.W.keq_ne (knd := mixKind X.prog X.w) ya yb da db (by omega) (fun _ => hitsD I (by show X.A.units + 1 + 64 < cLine; omega) rb hg ra hf) ⟨.bl _, H, I, rfl, q⟩
end
/-! rows of texts under text keys -/
def ssD (ws : List Str) : PyData := .tuple (ws.map PyData.str)
theorem dpAll_strs {K : PySem.W.Frag} {H : Hp} : ∀ ws : List Str, DpAll K H (ws.map V.str) (ws.map PyData.str)
  | [] => .nil
  | z :: r => .cons (.str z) (dpAll_strs r)
end Ox
namespace Ox
open PySem PySem.Spec PyProof.Rows L2
theorem hu65 {A : Around} {k : Nat} (r : Room k A) : A.units + 65 < cLine := by have := r.un; omega
end Ox
namespace Ox
open PySem PySem.Spec PyProof.Rows L2
theorem wipe_one {σ : L2.St} {n : Nat} {v : Option V} : wipe ((wipe σ [n]).set n v) [n] = wipe σ [n] := by
  show ((σ.set n none).set n v).set n none = σ.set n none
  rw [List.set_set, List.set_set]
theorem filt_snoc {α : Type} {as : List α} {p : α → Bool} {i : Nat} {a : α} (h : as[i]? = some a) : (as.take (i + 1)).filter p = (as.take i).filter p ++ (if p a = true then [a] else []) := by
  have e : as.take (i + 1) = as.take i ++ [a] := by rw [List.take_succ, h]; rfl
  rw [e, List.filter_append, List.filter_cons]
  rfl
/-- a list comprehension over what c makes of the items of as: those with p, f of them -/
theorem lcFM {α : Type} {as : List α} {c : α → V} {J : It} {G : Hp → Prop} {n : Nat} {σ : L2.St} {H : Hp} {D : Addr} {Qd : Hp → Prop} {tt : TT} {te : TE} (w : L2.Walk J (as.map c).length G (L2.YAt (as.map c))) (hG : ∀ H', L2.Same H H' → G H') (hD : H D = none) (p : α → Bool) (f : α → V) (hl : as.length ≤ 10000)
    (ht : ∀ a ∈ as, ∀ H', L2.Same H H' → ∀ R : Bool → Hp → Prop, (∀ H'', L2.Same H' H'' → R (p a) H'') → tt ((wipe σ [n]).set n (some (c a))) H' R)
    (he : ∀ a ∈ as, p a = true → ∀ H', L2.Same H H' → ∀ Qk : VK, (∀ H'', L2.Same H' H'' → Qk (f a) H'') → te ((wipe σ [n]).set n (some (c a))) H' Qk)
    (k : ∀ H', L2.Same H H' → H' D = some (.lst ((as.filter p).map f)) → Qd H') : LcP J (gName n) tt te [n] σ D Qd H := by
  refine lc_by w (fun i H' => L2.Same H H' ∧ H' D = some (.lst (((as.take i).filter p).map f))) ⟨same_new hD, upd_same⟩ (fun i H' _ h => hG H' h.1) ?_ ?_
  · rintro i x H1 H2 hi ⟨s1, h1⟩ ⟨rfl, hx⟩
    rw [List.getElem?_map] at hx
    cases ha : as[i]? with
    | none => rw [ha] at hx; cases hx
    | some a =>
      rw [ha] at hx
      have ex : c a = x := Option.some.inj hx
      subst ex
      have hm := List.mem_of_getElem? ha
      refine x_g1 ⟨wipe_one, ?_⟩
      refine ht a hm H2 s1 _ fun H3 s3 => ?_
      have fl := filt_snoc (p := p) ha
      cases hp : p a with
      | true =>
        rw [hp, if_pos rfl] at fl
        refine x_T ?_
        refine he a hm hp H3 (s1.trans s3) _ fun H4 s4 => ?_
        have len : ((as.take i).filter p).length ≤ 10000 - 1 := by
          have := List.length_filter_le p (as.take i)
          rw [List.length_take] at this
          rw [List.length_map] at hi
          omega
        refine ⟨_, s4 _ _ (s3 _ _ h1), sz_lt (by rw [List.length_map]; omega), same_upd ((s1.trans s3).trans s4) hD, ?_⟩
        rw [upd_same, fl, List.map_append]
        rfl
      | false =>
        rw [hp, if_neg Bool.false_ne_true, List.append_nil] at fl
        refine x_F ?_
        refine ⟨s1.trans s3, ?_⟩
        rw [fl]
        exact s3 _ _ h1
  · rintro H1 ⟨s1, h1⟩
    rw [List.length_map, List.take_length] at h1
    exact k H1 s1 h1
/-- a dict comprehension: of those with p, the text kf and f of them; the texts are all different -/
theorem dcFM {α β : Type} {as : List α} {c : α → V} {g : β → V} {J : It} {G : Hp → Prop} {n : Nat} {σ : L2.St} {H : Hp} {D : Addr} {Qd : Hp → Prop} {tt : TT} {tk tv : TE} (w : L2.Walk J (as.map c).length G (L2.YAt (as.map c))) (hG : ∀ H', L2.Same H H' → G H') (hD : H D = none) (p : α → Bool) (kf : α → Str) (f : α → β) (hl : as.length ≤ 9999)
    (nd : ((as.filter p).map kf).Nodup)
    (ht : ∀ a ∈ as, ∀ H', L2.Same H H' → ∀ R : Bool → Hp → Prop, (∀ H'', L2.Same H' H'' → R (p a) H'') → tt ((wipe σ [n]).set n (some (c a))) H' R)
    (hk : ∀ a ∈ as, p a = true → ∀ H', L2.Same H H' → ∀ Qk : VK, (∀ H'', L2.Same H' H'' → Qk (.str (kf a)) H'') → tk ((wipe σ [n]).set n (some (c a))) H' Qk)
    (he : ∀ a ∈ as, p a = true → ∀ H', L2.Same H H' → ∀ Qk : VK, (∀ H'', L2.Same H' H'' → Qk (g (f a)) H'') → tv ((wipe σ [n]).set n (some (c a))) H' Qk)
    (k : ∀ H', L2.Same H H' → H' D = some (.dK (strK g ((as.filter p).map fun a => (kf a, f a)))) → Qd H') : DcP J (gName n) tt tk tv [n] σ D Qd H := by
  refine dc_by w (fun i H' => L2.Same H H' ∧ H' D = some (.dK (strK g (((as.take i).filter p).map fun a => (kf a, f a))))) ⟨same_new hD, upd_same⟩ (fun i H' _ h => hG H' h.1) ?_ ?_
  · rintro i x H1 H2 hi ⟨s1, h1⟩ ⟨rfl, hx⟩
    rw [List.getElem?_map] at hx
    cases ha : as[i]? with
    | none => rw [ha] at hx; cases hx
    | some a =>
      rw [ha] at hx
      have ex : c a = x := Option.some.inj hx
      subst ex
      have hm := List.mem_of_getElem? ha
      refine x_g1 ⟨wipe_one, ?_⟩
      refine ht a hm H2 s1 _ fun H3 s3 => ?_
      have fl := filt_snoc (p := p) ha
      cases hp : p a with
      | true =>
        rw [hp, if_pos rfl] at fl
        refine x_T ?_
        refine hk a hm hp H3 (s1.trans s3) _ fun H4 s4 => ?_
        refine he a hm hp H4 ((s1.trans s3).trans s4) _ fun H5 s5 => ?_
        have len : ((as.take i).filter p).length ≤ 9998 := by
          have := List.length_filter_le p (as.take i)
          rw [List.length_take] at this
          rw [List.length_map] at hi
          omega
        have fresh : kf a ∉ (((as.take i).filter p).map fun a => (kf a, f a)).map (·.1) := fun hmem => by
          rw [List.map_map] at hmem
          have e1 : as = as.take (i + 1) ++ as.drop (i + 1) := (List.take_append_drop _ _).symm
          rw [e1, List.filter_append, fl, List.map_append, List.map_append] at nd
          exact (List.nodup_append.mp (List.nodup_append.mp nd).1).2.2 (kf a) hmem (kf a) List.mem_cons_self rfl
        refine ⟨_, Sum.inr (kf a), rfl, s5 _ _ (s4 _ _ (s3 _ _ h1)), sz_lt (by rw [List.length_map, List.length_map]; omega), same_upd (((s1.trans s3).trans s4).trans s5) hD, ?_⟩
        rw [upd_same, strK_put, putL_new _ fresh, fl, List.map_append]
        rfl
      | false =>
        rw [hp, if_neg Bool.false_ne_true, List.append_nil] at fl
        refine x_F ?_
        refine ⟨s1.trans s3, ?_⟩
        rw [fl]
        exact s3 _ _ h1
  · rintro H1 ⟨s1, h1⟩
    rw [List.length_map, List.take_length] at h1
    exact k H1 s1 h1
/-! texts compared -/
theorem eqvAll_strs : ∀ xs ys : List Str, PyData.eqvAll (xs.map PyData.str) (ys.map PyData.str) = decide (xs = ys)
  | [], [] => rfl
  | [], _ :: _ => rfl
  | _ :: _, [] => rfl
  | x :: r, y :: t => by
    show (PyData.eqv (.str x) (.str y) && PyData.eqvAll (r.map PyData.str) (t.map PyData.str)) = _
    rw [eqvAll_strs r t]
    have e : PyData.eqv (.str x) (.str y) = decide (x = y) := by
      show (x == y) = _
      by_cases h : x = y
      · rw [h]; simp
      · have h2 : (x == y) = false := by simpa using h
        rw [h2]
        exact (decide_eq_false h).symm
    rw [e]
    by_cases h : x = y
    · by_cases h2 : r = t
      · simp [h, h2]
      · simp [h, h2]
    · simp [h]
theorem strs_lay : ∀ xs : List Str, (∀ z ∈ xs, PyData.strOk z = true) → PyData.canLayAll0 (xs.map PyData.str) = true ∧ PyData.depthAll (xs.map PyData.str) = 0
  | [], _ => ⟨rfl, rfl⟩
  | x :: r, h => by
    obtain ⟨h1, h2⟩ := strs_lay r fun y hy => h y (List.mem_cons_of_mem _ hy)
    have h3 := h x List.mem_cons_self
    rw [List.map_cons]
    refine ⟨?_, ?_⟩
    · show (PyData.strOk x && PyData.canLayAll0 (r.map PyData.str)) = true
      rw [h1, h3]
      rfl
    · show max 0 (PyData.depthAll (r.map PyData.str)) = 0
      rw [h2]
      rfl
theorem ssD_shaped {xs : List Str} (h : ∀ z ∈ xs, PyData.strOk z = true) : SeqAt.shaped (ssD xs) = true := by
  obtain ⟨h1, h2⟩ := strs_lay xs h
  unfold SeqAt.shaped
  have e1 : PyData.canLay0 (ssD xs) = true := h1
  have e2 : PyData.depth (ssD xs) ≤ 64 := by
    show PyData.depthAll (xs.map PyData.str) + 1 ≤ 64
    rw [h2]
    decide
  rw [e1, decide_eq_true e2]
  rfl
theorem ssL_shaped {xs : List Str} (h : ∀ z ∈ xs, PyData.strOk z = true) : SeqAt.shaped (.list (xs.map PyData.str)) = true := ssD_shaped h
theorem ssD_eqv (xs ys : List Str) : PyData.eqv (ssD xs) (ssD ys) = decide (xs = ys) := eqvAll_strs xs ys
section
variable {K : PySem.W.Frag} {H : Hp} {Q : VK} {a b : Addr} {xs ys : List Str}
theorem x_neTS (ha : SqT K H a (xs.map V.str)) (hb : SqT K H b (ys.map V.str)) (hx : ∀ z ∈ xs, PyData.strOk z = true) (hy : ∀ z ∈ ys, PyData.strOk z = true) (q : Q (.bl (!decide (xs = ys))) H) : rNeD K (.ref a) (.ref b) H Q :=
  ⟨_, _, .tup ha (dpAll_strs xs), .tup hb (dpAll_strs ys), ssD_shaped hx, ssD_shaped hy, by rw [show PyData.eqv (.tuple (xs.map PyData.str)) (.tuple (ys.map PyData.str)) = decide (xs = ys) from ssD_eqv xs ys]; exact q⟩
theorem x_neLS (ha : SqL K H a (xs.map V.str)) (hb : SqL K H b (ys.map V.str)) (hx : ∀ z ∈ xs, PyData.strOk z = true) (hy : ∀ z ∈ ys, PyData.strOk z = true) (q : Q (.bl (!decide (xs = ys))) H) : rNeD K (.ref a) (.ref b) H Q :=
  ⟨_, _, .lst ha (dpAll_strs xs), .lst hb (dpAll_strs ys), ssL_shaped hx, ssL_shaped hy, by rw [show PyData.eqv (.list (xs.map PyData.str)) (.list (ys.map PyData.str)) = decide (xs = ys) from eqvAll_strs xs ys]; exact q⟩
theorem x_eqTS (ha : SqT K H a (xs.map V.str)) (hb : SqT K H b (ys.map V.str)) (hx : ∀ z ∈ xs, PyData.strOk z = true) (hy : ∀ z ∈ ys, PyData.strOk z = true) (q : Q (.bl (decide (xs = ys))) H) : rEqD K (.ref a) (.ref b) H Q :=
  ⟨_, _, .tup ha (dpAll_strs xs), .tup hb (dpAll_strs ys), ssD_shaped hx, ssD_shaped hy, by rw [show PyData.eqv (.tuple (xs.map PyData.str)) (.tuple (ys.map PyData.str)) = decide (xs = ys) from ssD_eqv xs ys]; exact q⟩
theorem x_eqLS (ha : SqL K H a (xs.map V.str)) (hb : SqL K H b (ys.map V.str)) (hx : ∀ z ∈ xs, PyData.strOk z = true) (hy : ∀ z ∈ ys, PyData.strOk z = true) (q : Q (.bl (decide (xs = ys))) H) : rEqD K (.ref a) (.ref b) H Q :=
  ⟨_, _, .lst ha (dpAll_strs xs), .lst hb (dpAll_strs ys), ssL_shaped hx, ssL_shaped hy, by rw [show PyData.eqv (.list (xs.map PyData.str)) (.list (ys.map PyData.str)) = decide (xs = ys) from eqvAll_strs xs ys]; exact q⟩
theorem x_tupD {p : Addr} {kvs : List (Key × V)} (h : Rd H p (.dK kvs)) (q : ∀ l, H l = none → Q (.ref l) (upd H l (.tup (kvs.map fun kv => kV kv.1)))) : rTupD [V.ref p] H Q := ⟨p, kvs, rfl, h, q⟩
end
end Ox

/-! Own layer: sorted(a list of tuples of whole numbers, of any lengths, the empty one ahead). -/
namespace Ox
open PySem PySem.Spec PyProof.Rows L2
theorem lex_asym : ∀ a b : List Int, HT.lexLt a b = true → HT.lexLt b a = false
  | [], [], h => by cases h
  | [], _ :: _, _ => rfl
  | _ :: _, [], h => by cases h
  | x :: r, y :: t, h => by
    rw [HT.lexLt_cons] at h ⊢
    by_cases e : x = y
    · rw [if_pos e] at h
      rw [if_pos e.symm]
      exact lex_asym r t h
    · rw [if_neg e] at h
      rw [if_neg (fun q => e q.symm)]
      have := of_decide_eq_true h
      exact decide_eq_false (by omega)
theorem lex_trans : ∀ a b c : List Int, HT.lexLt b a = false → HT.lexLt c b = false → HT.lexLt c a = false
  | [], _, [], _, _ => rfl
  | [], [], _ :: _, _, _ => rfl
  | [], _ :: _, _ :: _, _, _ => rfl
  | _ :: _, [], _, h, _ => by cases h
  | _ :: _, _ :: _, [], _, h => by cases h
  | x :: r, y :: t, z :: u, h1, h2 => by
    rw [HT.lexLt_cons] at h1 h2 ⊢
    by_cases e1 : y = x
    · rw [if_pos e1] at h1
      by_cases e2 : z = y
      · rw [if_pos e2] at h2
        rw [if_pos (e2.trans e1)]
        exact lex_trans r t u h1 h2
      · rw [if_neg e2] at h2
        have := of_decide_eq_false h2
        rw [if_neg (by omega)]
        exact decide_eq_false (by omega)
    · rw [if_neg e1] at h1
      have a1 := of_decide_eq_false h1
      by_cases e2 : z = y
      · rw [if_neg (by omega)]
        exact decide_eq_false (by omega)
      · rw [if_neg e2] at h2
        have := of_decide_eq_false h2
        rw [if_neg (by omega)]
        exact decide_eq_false (by omega)
theorem lex_anti : ∀ a b : List Int, HT.lexLt b a = false → HT.lexLt a b = false → a = b
  | [], [], _, _ => rfl
  | [], _ :: _, _, h => by cases h
  | _ :: _, [], h, _ => by cases h
  | x :: r, y :: t, h1, h2 => by
    rw [HT.lexLt_cons] at h1 h2
    by_cases e : x = y
    · rw [if_pos e.symm] at h1
      rw [if_pos e] at h2
      rw [e, lex_anti r t h1 h2]
    · rw [if_neg (fun q => e q.symm)] at h1
      rw [if_neg e] at h2
      have := of_decide_eq_false h1
      have := of_decide_eq_false h2
      omega
theorem swo_lexL (k : Value → List Int) : SrtO.Swo fun v u => HT.lexLt (k v) (k u) := ⟨fun x y h => lex_asym _ _ h, fun x y z h1 h2 => lex_trans _ _ _ h1 h2⟩
/-- a tuple of the ints ns -/
def TupI (h : Heap) (v : Value) (ns : List Int) : Prop := ∃ a its, v = .ref a ∧ IsTup h a its ∧ IntsAre its.toList ns
theorem TupI.keep {h h' : Heap} {v : Value} {ns : List Int} (t : TupI h v ns) (k : ∀ b o, h.get? b = some o → o.cls = .type "tuple" → h'.get? b = some o) : TupI h' v ns := by
  obtain ⟨a, its, e, ⟨o, ho, hc, hd⟩, hi⟩ := t
  exact ⟨a, its, e, ⟨o, k a o ho hc, hc, hd⟩, hi⟩
section
variable {prog : Program} {w : World} {A : Around} {s : Shared}
/-- the first items of tuples, where they have any -/
theorem firstsG {M : Model} {E : Value → Shared → Prop} : ∀ (vs : List Value) {Q : List (Option Value) → Shared → Prop}, (∀ v ∈ vs, ∃ ns, TupI s.heap v ns) → (∀ gs : List (Option Value), gs.length = vs.length → (∀ v r, vs = v :: r → TupI s.heap v [] → ∃ g, gs = none :: g) → Q gs s) → wpAny M A (vs.mapM firstOfTuple') Q E s
  | [], _, _, h => by
    rw [List.mapM_nil]
    exact wpAny_pure (h [] rfl fun v r e => by cases e)
  | v :: vs, Q, t, h => by
    obtain ⟨ns, a, its, rfl, ⟨o, ho, hc, n, hd⟩, hi⟩ := t v List.mem_cons_self
    rw [List.mapM_cons]
    refine wpAny_bind ?_
    rw [PySem.W.kas_first_eq]
    refine wpAny_bind (PySem.W.Looks.here (show PySem.W.Looks M s.heap (typeOf (.ref a)) o.cls from (PySem.W.Looks.ld ho).andThen .now) ?_)
    rw [hc, if_neg (by first | decide | simp)]
    refine wpAny_bind (listItems_at ho hd (wpAny_pure ?_))
    refine wpAny_bind (firstsG vs (fun v hv => t v (List.mem_cons_of_mem _ hv)) fun gs hl _ => ?_)
    refine wpAny_pure (h (its[0]? :: gs) (by simp [hl]) fun v r e te => ?_)
    cases e
    obtain ⟨a', its', e', ⟨o', ho', hc', n', hd'⟩, hi'⟩ := te
    cases e'
    rw [ho] at ho'
    cases ho'
    rw [hd] at hd'
    cases hd'
    have : its.toList = [] := by
      cases hq : its.toList with
      | nil => rfl
      | cons x y => rw [hq] at hi'; cases hi'
    have e0 : its[0]? = none := by
      rw [← Array.getElem?_toList, this]
      rfl
    exact ⟨gs, by rw [e0]⟩
theorem kindLots {E : Value → Shared → Prop} {Q : SortKind → Shared → Prop} {v0 : Value} {r : List Value} (h0 : TupI s.heap v0 []) (ht : ∀ v ∈ v0 :: r, ∃ ns, TupI s.heap v ns) (h : Q oneType' s) : wpAny (model prog w) A (keyKind' (v0 :: r).toArray) Q E s := by
  rw [PyProof.Rows.kat_kind_eq, List.mapM_toArray, map_eq_pure_bind]
  refine wpAny_bind (wpAny_bind (firstsG (v0 :: r) ht fun gs hl hg => ?_))
  obtain ⟨g, rfl⟩ := hg v0 r rfl h0
  refine wpAny_pure ?_
  have hall : ((none :: g).toArray.all fun x : Option Value => x.isSome) = false := by simp
  rw [hall, if_neg Bool.false_ne_true]
  have h1 : (((none :: g).toArray[0]?).bind id : Option Value).isSome = false := by simp
  rw [h1, if_neg Bool.false_ne_true, oneTypeOnly'_eq, List.mapM_toArray, map_eq_pure_bind]
  refine wpAny_bind (wpAny_bind (wpAny_bind (PySem.W.kas_mapM (r := Value.type "tuple") _ (fun v hv Q' hq => ?_) (wpAny_pure ?_))))
  · obtain ⟨ns, a, its, rfl, ⟨o, ho, hc, hd⟩, _⟩ := ht v hv
    refine (show PySem.W.Looks (model prog w) s.heap (typeOf (.ref a)) o.cls from (PySem.W.Looks.ld ho).andThen .now).here ?_
    rw [hc]
    exact hq
  · have hall2 : ((List.map (fun _ => Value.type "tuple") (v0 :: r)).toArray.all fun x => x == Value.type "tuple") = true := by
      simp only [List.all_toArray, List.all_map, List.all_eq_true]
      intro _ _
      rfl
    have h00 : (List.map (fun _ => Value.type "tuple") (v0 :: r)).toArray[0]? = some (Value.type "tuple") := by simp
    rw [h00]
    simp only [hall2, if_true]
    exact wpAny_pure (wpAny_pure h)
theorem cmpLots {vs : List Value} {k : Value → List Int} (hu : A.units < cLine) (hp : ∀ v ∈ vs, TupI s.heap v (k v)) : SrtO.Cmp prog w A s oneType' (fun p => p.1 ∈ vs) (SrtO.lt2 fun v u => HT.lexLt (k v) (k u)) := by
  intro p q hm hm'
  obtain ⟨a, its, e, t1, i1⟩ := hp _ hm
  obtain ⟨b, its2, e2, t2, i2⟩ := hp _ hm'
  show wpAny (model prog w) A (keyLt' oneType' p.1 q.1) (fun r s' => s' = s ∧ r = HT.lexLt (k p.1) (k q.1)) (fun _ _ => False) s
  rw [keyLt'_oneType, oneLt'_eq, e, e2]
  rw [e] at i1
  rw [e2] at i2
  simp only [if_true]
  refine wpAny_bind (wpAny_cRoomFor hu ?_)
  obtain ⟨⟨cls, dd, data, sl⟩, ho, hc, n, hd⟩ := id t1
  obtain ⟨⟨cls2, dd2, data2, sl2⟩, ho2, hc2, n2, hd2⟩ := id t2
  simp only at hc hd hc2 hd2
  subst hc hd hc2 hd2
  refine wpAny_bind (wpAny_callSpecialIfBound?_slot (T := "tuple") ⟨_, ho, rfl⟩ PySem.F.slot_tuple_lt ?_)
  refine call_meets PySem.F.slot_tuple_lt ⟨_, ho, rfl⟩ PySem.F.entry_tuple_lt (PySem.F.args_tuple_lt_2 _ _) (HT.tuple_lt_ints a b its its2 n n2 dd dd2 sl sl2 _ _ i1 i2) ⟨ho, ho2, ?_⟩
  exact wpAny_truthy_bool ⟨rfl, rfl⟩
theorem sortedLots {l : Addr} {v0 : Value} {r : List Value} {k : Value → List Int} {E : Value → Shared → Prop} {Q : Value → Shared → Prop} (hu : A.units + 2 < cLine) (hl : s.heap.IsList l (v0 :: r).toArray) (hz : (v0 :: r).length ≤ sizeLine) (h0 : k v0 = []) (hp : ∀ v ∈ v0 :: r, TupI s.heap v (k v))
    (h : ∀ (h' : Heap) (d : Addr) (out : List Value), SrtO.Srtd (fun v u => HT.lexLt (k v) (k u)) out → out.Perm (v0 :: r) → (∀ b o, s.heap.get? b = some o → h'.get? b = some o) → s.heap.objs.size ≤ d → (∃ n, h'.get? d = some (seqObj "list" out.toArray n)) → Q (.ref d) { s with heap := h' }) :
    wpAny (model prog w) A (call (.builtin "sorted") [.ref l]) Q E s := by
  refine SrtO.sorted_ord (swo_lexL k) hl hz (fun h2 h₁ a ha kk => ?_) fun out hs hb => ?_
  · intro h' keep
    have ne : ∀ o, h₁.get? a = some o → o.cls ≠ .type "tuple" := fun o e => by
      rw [ha] at e
      cases e
      intro c
      exact absurd (Value.type.inj c) (by decide)
    have hp' : ∀ v ∈ v0 :: r, TupI h' v (k v) := fun v hm => (hp v hm).keep fun b o e c => keep b o (fun z => by subst z; exact ne o ((kk b o e).2) c) (kk b o e).2
    refine ⟨oneType', fun Q E hq => ?_, cmpLots (by show A.units + 1 + 1 < cLine; omega) hp'⟩
    refine kindLots (s := { s with heap := h' }) ?_ (fun v hv => ⟨_, hp' v hv⟩) hq
    have := hp' v0 List.mem_cons_self
    rw [h0] at this
    exact this
  · exact h _ _ out hs hb.perm (fun b o e => sortedAll_old e) (Nat.le_succ _) (sortedAll_at s.heap (v0 :: r) out.toArray)
end
/-! the rule: the items are references -/
def rSortLots (K : PySem.W.Frag) : List V → Hp → VK → Prop := fun vs H Q => ∃ (l a0 : Addr) (as : List Addr) (f : Addr → List Int), vs = [.ref l] ∧ SqL K H l ((a0 :: as).map V.ref) ∧ f a0 = [] ∧ (∀ a ∈ a0 :: as, SqT K H a ((f a).map V.int)) ∧
  ∀ (out : List Addr) (p : Addr), out.Perm (a0 :: as) → out.Pairwise (fun a b => HT.lexLt (f b) (f a) = false) → H p = none → Q (.ref p) (upd H p (.lst (out.map V.ref)))
def refOf : Value → Addr
  | .ref a => a
  | _ => 0
theorem vals_refs {as : List Addr} : ∀ {us : List Value}, Vals (as.map V.ref) us → us = as.map Value.ref := by
  induction as with
  | nil => intro us h; cases h; rfl
  | cons a r ih =>
    intro us h
    cases h with
    | cons h1 h2 => rw [ih h2, show _ = Value.ref a from h1]; rfl
theorem refs_vals : ∀ as : List Addr, Vals (as.map V.ref) (as.map Value.ref)
  | [] => .nil
  | a :: r => .cons rfl (refs_vals r)
theorem cr_sortedLots {X : Cx} (hu : X.A.units + 2 < cLine) : CallR X (.builtin "sorted") (rSortLots X.K) := by
  intro pins s σ H vs us Q I r h
  obtain ⟨l, a0, as, f, rfl, hs, h0, hf, q⟩ := h
  obtain ⟨its, rv, hl, hz⟩ := I.list hs
  obtain ⟨u, rfl, ru⟩ := vals1 r
  obtain rfl : u = Value.ref l := ru
  obtain rfl := vals_refs rv
  refine sortedLots (k := fun v => f (refOf v)) (v0 := .ref a0) (r := as.map Value.ref) hu hl.isList (by show ((a0 :: as).map Value.ref).length ≤ _; rw [← rv.length]; exact hz) h0 (fun v hv => ?_) fun h' d out h1 h2 kp hd hn => ?_
  · obtain ⟨a, ha, rfl⟩ := List.mem_map.mp (show v ∈ (a0 :: as).map Value.ref from hv)
    obtain ⟨its2, r2, p2, _⟩ := I.tuple (hf a ha)
    exact ⟨a, its2.toArray, rfl, p2, intsAre_of r2⟩
  · obtain ⟨n, hn⟩ := hn
    have eo : out = (out.map refOf).map Value.ref := by
      rw [List.map_map]
      conv => lhs; rw [← List.map_id out]
      refine List.map_congr_left fun v hv => ?_
      obtain ⟨a, _, rfl⟩ := List.mem_map.mp (show v ∈ (a0 :: as).map Value.ref from h2.mem_iff.mp hv)
      rfl
    have pm : (out.map refOf).Perm (a0 :: as) := by
      have := h2.map refOf
      have e2 : ((Value.ref a0 :: as.map Value.ref).map refOf) = a0 :: as := by
        show a0 :: (as.map Value.ref).map refOf = _
        rw [List.map_map]
        have : (refOf ∘ Value.ref) = (id : Addr → Addr) := rfl
        rw [this, List.map_id]
      rw [e2] at this
      exact this
    refine ⟨.ref d, upd H d (.lst ((out.map refOf).map V.ref)), I.laid (t' := s.toks) kp hd ⟨?_, (out.map refOf).map Value.ref, n, refs_vals _, by rw [← eo]; exact hn⟩, rfl, q _ d pm (List.pairwise_map.mpr h1) (I.hok.fresh hd)⟩
    rw [List.length_map, pm.length_eq]
    rw [List.length_map] at hz
    exact hz
end Ox
namespace Ox
open PySem PySem.Spec PyProof.Rows L2
theorem hu2 {A : Around} {k : Nat} (r : Room k A) : A.units + 2 < cLine := by have := r.un; omega
theorem op_catAK {X : Cx} {K : PySem.W.Frag} (e : X.K = K := by rfl) : OpR X (binaryOp .Add) (rCatA K) := e ▸ op_catA
theorem x_catA {K : PySem.W.Frag} {H : Hp} {Q : VK} {a b : Addr} {xs ys : List V} (ha : SqT K H a xs) (hb : H b = some (.tup ys)) (hy : ys ≠ []) (hl : xs.length + ys.length ≤ 10000) (q : ∀ p H', L2.Same H H' → H' p = some (.tup (xs ++ ys)) → Q (.ref p) H') : rCatA K (.ref a) (.ref b) H Q :=
  ⟨a, b, xs, ys, rfl, rfl, ha, SqT.of hb, sz_le hl, fun e => q b H (fun _ _ h => h) (by rw [e]; exact hb), fun _ e => absurd e hy, fun _ _ p hp => q p _ (same_new hp) upd_same⟩
end Ox

/-! Own layer: the law's own def, walked where it is called (so that no repr is under way there), and repr of nested data. -/
namespace Ox
open PySem PySem.Spec PyProof.Rows L2
section
variable {P : Program} {w : World} {K : PySem.W.Frag} {mg : Str → Option Value} {base : Heap}
/-- a law's promise: as FnOk, for the law's caller alone -/
structure FnL (P : Program) (w : World) (K : PySem.W.Frag) (mg : Str → Option Value) (base : Heap) (f : Addr) (fd : FuncData) (ps : List Str) (sp : Sp) : Prop where
  len : ∀ vs H Q E, sp vs H Q E → vs.length = ps.length
  run : ∀ (s : Shared) (H : Hp) (args : Args) (us : List Value) (vs : List V) (Q : VK), Env0 P w K mg base callerA [] s H → BindsTo s fd args (ps.zip us) → Vals vs us → sp vs H Q E0 →
    codeAny (model P w) callerA (.call (.ref f) args) (CR CX0 [] P w H s Q E0) s
/-- the body's context where the law's caller calls -/
abbrev cxL (P : Program) (w : World) (K : PySem.W.Frag) (mg : Str → Option Value) (base : Heap) (N : List Str) (qual : Str) (sc : Scope) (f : Addr) (cdv : Value) (s : Shared) (H : Hp) : Cx := cxOf CX0 P w K mg base N qual sc f cdv callerA [] s H E0
theorem Fun.okL {x qual : Str} {st : Stmt} {f : Addr} {fd : FuncData} {N ps : List Str} {k : Nat} {sp : Sp} (hr : Room (k + 1) callerA) (F : Fun K x qual st f fd) (S : FnScope N ps (defScope st)) (len : ∀ vs H Q E, sp vs H Q E → vs.length = ps.length)
    (body : ∀ (cdv : Value) (s : Shared) (H : Hp) (vs : List V) (Q : VK), Room k (callerA.deeper (envOfC qual (defScope st) s.heap.objs.size f cdv)) → sp vs H Q E0 →
      ∃ t, PSs (cxL P w K mg base N qual (defScope st) f cdv s H).nox (defBody st) t ∧ t { nx := fun _ H' => Q .non H', rt := Q } (start N vs) H) : FnL P w K mg base f fd ps sp := by
  obtain ⟨oc, od, kV, doc, pm, an, cdv, ct, osl, rfl, lk, hcd⟩ := F.ex
  refine ⟨len, ?_⟩
  intro s H args us vs Q e0 hb r hsp
  have old : ∀ b o, base.get? b = some o → s.heap.get? b = some o := fun b o e => (e0.bs b o e).1
  have par : ∀ y ∈ ps.zip us, (defScope st).names.lookup y.1 = some .local ∨ ((defScope st).names.lookup y.1 = some .cell ∧ ((cellsFrom (s.heap.objs.size + 1) (defScope st).names []).lookup y.1).isSome = true) := by
    rintro ⟨n, v⟩ hy
    exact (S.par n (List.of_mem_zip hy).1).imp id fun q => ⟨q, PySem.W.cellsFrom_some _ _ _ (.inl q)⟩
  refine codeAny_call_function hr.depth (e0.mod.kin.keeps old _ _ lk) rfl S.co S.gen rfl (PySem.W.codeRec_of (e0.mod.kin.keeps old) hcd) (hb _ _ _ _ (wpAny_newFunctionEnv_cells S.kind par ?_))
  rintro env rfl s1 x
  obtain ⟨t, ht, hq⟩ := body cdv s H vs Q (hr.deeper _) hsp
  refine ⟨(e0.mod.nolimit.keeps old).keeps x.toInCall.keep, codeAny_func ?_⟩
  have J : Inv (cxL P w K mg base N qual (defScope st) f cdv s H) [] (start N vs) H s1 := inv_start S rfl e0 (len _ _ _ _ hsp) r x
  refine wpAny_mono (ht.nox.run [] s1 _ H _ J hq) (fun fl s' z => ?_) fun _ _ z => z
  cases fl with
  | ret u =>
    obtain ⟨v, σ', H', I', rv, q⟩ := z
    exact ⟨v, H', I'.os, I'.bare, I'.base, I'.hok, rv, q⟩
  | next =>
    obtain ⟨σ', H', I', q⟩ := z
    exact ⟨V.non, H', I'.os, I'.bare, I'.base, I'.hok, rfl, q⟩
  | brk =>
    obtain ⟨_, _, _, q⟩ := z
    exact q.elim
  | cont =>
    obtain ⟨_, _, _, q⟩ := z
    exact q.elim
end
/-- where the law is called: H tracks the script at a, or nothing -/
theorem envL {P : Program} {w : World} {K : PySem.W.Frag} {mg mb : Str → Option Value} {s : Shared} {H : Hp} {a : Addr} {vs : List Value}
    (KX : K.In s.heap) (g : s.heap.Ns mainGlobals mg) (b : s.heap.Ns builtinsNs mb) (bb : ∀ x : Str, x ≠ "__name__" → mb x = bootBuiltins x) (lim : s.heap.NoLimit) (hg : s.gens = #[])
    (ha : s.heap.get? a = some { cls := .type "list", data := .seq vs.toArray }) (hA : ∀ c, c ≠ a → H c = none) (hK : H a = none ∨ K.lookup a = none) (hok : HOk P w H s.heap) :
    Env0 P w K mg (hidT s.heap H) callerA [] s H ∧ K.In (hidT s.heap H) ∧ (hidT s.heap H).Ns mainGlobals mg := by
  have nsOf : ∀ {c : Addr} {m : Str → Option Value}, s.heap.Ns c m → (hidT s.heap H).Ns c m := by
    rintro c m ⟨o, es, ep, e, d, r⟩
    refine ⟨o, es, ep, hidT_get e (hA c ?_), d, r⟩
    rintro rfl
    rw [ha] at e
    cases e
    cases d
  have inK : K.In (hidT s.heap H) := by
    intro c o e
    refine hidT_get (KX c o e) ?_
    by_cases hc : c = a
    · subst hc
      rcases hK with z | z
      · exact z
      · rw [z] at e; cases e
    · exact hA c hc
  obtain ⟨mc, l1, l2⟩ := lim
  exact ⟨⟨rfl, ⟨inK, nsOf g, ⟨mb, nsOf b, bb⟩, ⟨mc, nsOf l1, l2⟩⟩, fun c o e => of_hidT e, Nat.le_of_eq (hidT_size _ _), trivial, fun c hc => absurd (show c ∈ ([] : List Addr) from hc) (by simp), hok, .of_eq hg⟩, inK, nsOf g⟩
theorem endL {P : Program} {w : World} {s : Shared} {H : Hp} {r : Result} {s' : Shared} (hok : HOk P w H s.heap) (hO : Only H) (h : CR CX0 [] P w H s (fun v _ => v = .bl true) E0 r s') :
    r = .ok (.ret (.bool true)) ∧ OldK s.heap s'.heap ∧ s'.os = s.os ∧ AllBare s'.gens := by
  cases r with
  | error e => exact False.elim h
  | ok fl =>
    cases fl with
    | ret u =>
      obtain ⟨v, H', os, bare, un, hok', rv, q⟩ := h
      obtain rfl : v = V.bl true := q
      obtain rfl : u = Value.bool true := rv
      refine ⟨rfl, OldK.of_keep ?_, os, bare⟩
      intro b o e
      have nil : b ∉ frs ([] : List Env) := fun z => absurd (show b ∈ ([] : List Addr) from z) (by simp)
      rcases hO b with n | ⟨ob, xs, t⟩
      · exact un.keep b o e n nil (by simp)
      · have t1 : s.heap.get? b = some ob := (hok b _ t).1
        have t2 : s'.heap.get? b = some ob := (hok' b _ (un.frzs b ob _ t)).1
        rw [t1] at e
        rw [t2, Option.some.inj e]
    | next => exact False.elim h
    | brk => exact False.elim h
    | cont => exact False.elim h
/-- the law's end over a head by facts -/
theorem walk_ofL {l : PySem.W.OpenLaw} {n : Nat} {q : Program} {loose : List Str} {XP : (Str → Option Value) → Heap → Prop} {YP : World → Heap → Prop} {d : DefRec} {x : Str}
    (hn : l.most = some n) (hn2 : n ≤ sizeLine) (hdf : d.params.defaults = [])
    (F : ∀ (w : World) (mg : Str → Option Value) (fa : Addr) (h : Heap), YP w h → h.Ns mainGlobals mg → mg d.name = some (.ref fa) →
      ∃ (K : PySem.W.Frag) (fd : FuncData) (sp : Sp), K.In h ∧ (∀ (s : Shared) (u : Value), BindsTo s fd ⟨[u], []⟩ [(x, u)]) ∧
        (∀ (H : Hp) (a : Addr) (ns : List Int), ns.length ≤ n → Only H → SqL K H a (ns.map V.int) → sp [.ref a] H (fun v _ => v = .bl true) fun _ _ _ => False) ∧
        ∀ base : Heap, K.In base → base.Ns mainGlobals mg → FnL l.prog w K mg base fa fd [x] sp) :
    PySem.W.WalkO q loose XP YP l.row.toRowW d [] (fun f vs => PySem.call f vs) := by
  refine Att.attach_call hn hdf ?_
  intro w s₀ s₁ mg mb fa o pm cd doc a vs ns G Y ho hd hcd hmg hobj hints hlen hg
  obtain ⟨K, fd, sp, KX, hb, hsp, hF⟩ := F w mg fa _ Y G.T.g hmg
  have rv := vals_ints hints
  have lv := hints.length
  have go : ∀ H : Hp, Only H → (∀ c, c ≠ a → H c = none) → (H a = none ∨ K.lookup a = none) → HOk l.prog w H s₁.heap → SqL K H a (ns.map V.int) →
      codeAny (model l.prog w) callerA (.call (.ref fa) ⟨[.ref a], []⟩) (fun r s' => r = .ok (.ret (.bool true)) ∧ OldK s₁.heap s'.heap ∧ s'.os = s₁.os ∧ AllBare s'.gens) s₁ := by
    intro H hO hA hK hok hS
    obtain ⟨e0, k1, k2⟩ := envL KX G.T.g G.T.b G.T.builtins G.T.nolimit hg hobj hA hK hok
    exact codeAny_mono ((hF _ k1 k2).run s₁ H _ [.ref a] [.ref a] _ e0 (hb s₁ (.ref a)) (.cons rfl .nil) (hsp H a ns hlen hO hS)) fun r s' z => endL hok hO z
  by_cases hk : K.lookup a = none
  · refine go (upd (fun _ => none) a (.frz { cls := .type "list", data := .seq vs.toArray } (.lst (ns.map V.int)))) (fun b => ?_) (fun c hc => upd_ne hc) (.inr hk) (fun b u z => ?_) (.inl (.inr ⟨_, upd_same⟩))
    · by_cases hb : b = a
      · exact .inr ⟨_, _, by rw [hb]; exact upd_same⟩
      · exact .inl (upd_ne hb)
    · by_cases hb : b = a
      · subst hb
        rw [upd_same] at z
        cases z
        exact ⟨hobj, by rw [List.length_map]; omega, vs, _, rv, hobj⟩
      · rw [upd_ne hb] at z
        cases z
  · obtain ⟨o', hk'⟩ := Option.ne_none_iff_exists'.mp hk
    have e := KX a o' hk'
    rw [hobj] at e
    cases e
    exact go (fun _ => none) (fun _ => .inl rfl) (fun _ _ => rfl) (.inl rfl) (fun _ _ z => by cases z) (.inr ⟨_, vs.toArray, _, hk', rfl, rfl, rfl, by rw [List.size_toArray]; omega, by simpa using rv⟩)
/-! ### repr of nested data -/
/-- a dict's key as data -/
def kD : Key → PyData
  | .inl i => .int i
  | .inr x => .str x
def zipK : List (Key × V) → List PyData → List (PyData × PyData)
  | (k, _) :: r, d :: ds => (kD k, d) :: zipK r ds
  | _, _ => []
theorem zipK_keys : ∀ {kvs : List (Key × V)} {ds : List PyData}, ds.length = kvs.length → (zipK kvs ds).map (·.1) = kvs.map fun p => kD p.1
  | [], [], _ => rfl
  | (k, v) :: r, d :: ds, h => by
    show kD k :: (zipK r ds).map (·.1) = kD k :: r.map fun p => kD p.1
    rw [zipK_keys (by simpa using h)]
  | [], _ :: _, h => by simp at h
  | _ :: _, [], h => by simp at h
theorem zipK_vals : ∀ {kvs : List (Key × V)} {ds : List PyData}, ds.length = kvs.length → (zipK kvs ds).map (·.2) = ds
  | [], [], _ => rfl
  | (k, v) :: r, d :: ds, h => by
    show d :: (zipK r ds).map (·.2) = d :: ds
    rw [zipK_vals (by simpa using h)]
  | [], _ :: _, h => by simp at h
  | _ :: _, [], h => by simp at h
mutual
/-- what stands at v in H, as data -/
inductive Shw (H : Hp) : V → PyData → Prop
  | non : Shw H .non .none
  | bl (b : Bool) : Shw H (.bl b) (.bool b)
  | int (i : Int) : Shw H (.int i) (.int i)
  | str (x : Str) : Shw H (.str x) (.str x)
  | lst {a : Addr} {xs : List V} {ds : List PyData} : Rd H a (.lst xs) → ShwA H xs ds → Shw H (.ref a) (.list ds)
  | tup {a : Addr} {xs : List V} {ds : List PyData} : H a = some (.tup xs) → ShwA H xs ds → Shw H (.ref a) (.tuple ds)
  | dK {a : Addr} {kvs : List (Key × V)} {ds : List PyData} : Rd H a (.dK kvs) → ShwA H (kvs.map (·.2)) ds → Shw H (.ref a) (.dict (zipK kvs ds))
inductive ShwA (H : Hp) : List V → List PyData → Prop
  | nil : ShwA H [] []
  | cons {v : V} {d : PyData} {vs : List V} {ds : List PyData} : Shw H v d → ShwA H vs ds → ShwA H (v :: vs) (d :: ds)
end
theorem ShwA.len {H : Hp} : ∀ {vs : List V} {ds : List PyData}, ShwA H vs ds → ds.length = vs.length
  | _, _, .nil => rfl
  | _, _, .cons _ r => by simp [r.len]
theorem ReadsAll.app1 {h : Heap} : ∀ {us : List Value} {ds : List PyData}, (∀ p ∈ us.zip ds, Reads h p.1 p.2 []) → us.length = ds.length → ReadsAll h us ds []
  | [], [], _, _ => .nil
  | u :: us, d :: ds, k, l => ReadsAll.cons (as := []) (bs := []) (k (u, d) (by simp)) (app1 (fun p hp => k p (by simp [hp])) (by simpa using l))
  | [], _ :: _, _, l => by simp at l
  | _ :: _, [], _, l => by simp at l
theorem keysRead {P : Program} {w : World} {h : Heap} : ∀ {es : List DictEntry} {vs : List (Key × Value)}, Pairs (mixKind P w) es vs → ReadsAll h (es.map (·.key)) (vs.map fun p => kD p.1) [] ∧ es.map (·.val) = vs.map (·.2)
  | _, _, .nil => ⟨.nil, rfl⟩
  | _, _, .cons (e := e) (kv := kv) hk hv r => by
    obtain ⟨i1, i2⟩ := keysRead r
    refine ⟨ReadsAll.cons (as := []) (bs := []) ?_ i1, by rw [List.map_cons, List.map_cons, i2, hv]⟩
    obtain ⟨k, v⟩ := kv
    rcases keyIs_shape hk with ⟨i, t, e1, e2⟩ | ⟨x, t, e1, e2⟩
    · have e1' : k = Sum.inl i := e1
      subst e1'
      show Reads h e.key _ []
      rw [e2]
      exact Reads.int i t
    · have e1' : k = Sum.inr x := e1
      subst e1'
      show Reads h e.key _ []
      rw [e2]
      exact Reads.str x t
theorem kv_keys : ∀ {kvs : List (Key × V)} {vs : List (Key × Value)}, KV kvs vs → vs.map (fun p => kD p.1) = kvs.map (fun p => kD p.1) ∧ Vals (kvs.map (·.2)) (vs.map (·.2))
  | _, _, .nil => ⟨rfl, .nil⟩
  | _, _, .cons r t => by
    obtain ⟨i1, i2⟩ := kv_keys t
    exact ⟨by rw [List.map_cons, List.map_cons, i1, r.1], .cons r.2 i2⟩
mutual
theorem Shw.reads {P : Program} {w : World} {H : Hp} {h : Heap} (ok : HOk P w H h) : ∀ {v : V} {d : PyData}, Shw H v d → ∀ {u : Value}, RelV v u → ∃ as, Reads h u d as ∧ ∀ b ∈ as, H b ≠ none
  | _, _, .non, u, r => by
    obtain rfl : u = Value.none := r
    exact ⟨[], .none, fun b hb => by cases hb⟩
  | _, _, .bl b, u, r => by
    obtain rfl : u = Value.bool b := r
    exact ⟨[], .bool b, fun b hb => by cases hb⟩
  | _, _, .int i, u, r => by
    obtain ⟨t, rfl⟩ := r
    exact ⟨[], .int i t, fun b hb => by cases hb⟩
  | _, _, .str x, u, r => by
    obtain ⟨t, rfl⟩ := r
    exact ⟨[], .str x t, fun b hb => by cases hb⟩
  | _, _, .lst (a := a) (xs := xs) ha hs, u, r => by
    obtain rfl : u = Value.ref a := r
    obtain ⟨_, its, n, rv, hg⟩ := ha.ok ok
    obtain ⟨as, hr, hn⟩ := ShwA.reads ok hs rv
    refine ⟨a :: as, .list hg rfl rfl hr, fun b hb => ?_⟩
    rcases List.mem_cons.mp hb with rfl | hb
    · rcases ha with z | ⟨o, z⟩ <;> rw [z] <;> simp
    · exact hn b hb
  | _, _, .tup (a := a) ha hs, u, r => by
    obtain rfl : u = Value.ref a := r
    obtain ⟨_, its, rv, o, hg, hc, n, hd⟩ := ok a _ ha
    obtain ⟨as, hr, hn⟩ := ShwA.reads ok hs rv
    exact ⟨as, .tuple hg hc hd hr, hn⟩
  | _, _, .dK (a := a) (kvs := kvs) ha hs, u, r => by
    obtain rfl : u = Value.ref a := r
    obtain ⟨_, _, vs, rel, o, es, ep, hg, hx, hd, _, hp, _⟩ := ha.ok ok
    obtain ⟨k1, k2⟩ := keysRead (h := h) hp
    obtain ⟨k3, k4⟩ := kv_keys rel
    obtain ⟨as, hr, hn⟩ := ShwA.reads ok hs k4
    refine ⟨a :: [] ++ as, .dict hg hx.1 hd ?_ ?_, fun b hb => ?_⟩
    · rw [zipK_keys (by rw [hs.len, List.length_map]), ← k3]
      exact k1
    · rw [zipK_vals (by rw [hs.len, List.length_map]), k2]
      exact hr
    · rcases List.mem_cons.mp hb with rfl | hb
      · rcases ha with z | ⟨o, z⟩ <;> rw [z] <;> simp
      · exact hn b hb
theorem ShwA.reads {P : Program} {w : World} {H : Hp} {h : Heap} (ok : HOk P w H h) : ∀ {vs : List V} {ds : List PyData}, ShwA H vs ds → ∀ {us : List Value}, Vals vs us → ∃ as, ReadsAll h us ds as ∧ ∀ b ∈ as, H b ≠ none
  | _, _, .nil, us, r => by
    cases r
    exact ⟨[], .nil, fun b hb => by cases hb⟩
  | _, _, .cons hv hs, us, r => by
    cases r with
    | cons r1 r2 =>
      obtain ⟨as, h1, n1⟩ := Shw.reads ok hv r1
      obtain ⟨bs, h2, n2⟩ := ShwA.reads ok hs r2
      exact ⟨as ++ bs, .cons h1 h2, fun b hb => (List.mem_append.mp hb).elim (n1 b) (n2 b)⟩
end
theorem rd_same {H H' : Hp} {a : Addr} {u : HO} (s : L2.Same H H') (h : Rd H a u) : Rd H' a u := h.imp (s _ _) fun ⟨o, h⟩ => ⟨o, s _ _ h⟩
mutual
theorem Shw.same {H H' : Hp} (s : L2.Same H H') : ∀ {v : V} {d : PyData}, Shw H v d → Shw H' v d
  | _, _, .non => .non
  | _, _, .bl b => .bl b
  | _, _, .int i => .int i
  | _, _, .str x => .str x
  | _, _, .lst h hs => .lst (rd_same s h) (ShwA.same s hs)
  | _, _, .tup h hs => .tup (s _ _ h) (ShwA.same s hs)
  | _, _, .dK h hs => .dK (rd_same s h) (ShwA.same s hs)
theorem ShwA.same {H H' : Hp} (s : L2.Same H H') : ∀ {vs : List V} {ds : List PyData}, ShwA H vs ds → ShwA H' vs ds
  | _, _, .nil => .nil
  | _, _, .cons h hs => .cons (Shw.same s h) (ShwA.same s hs)
end
theorem vals_of1 {x : V} {us : List Value} (r : Vals [x] us) : ∃ u, us = [u] ∧ RelV x u := vals1 r
/-- repr(x) -/
def rRepr : List V → Hp → VK → Prop := fun xs H Q => ∃ (v : V) (d : PyData), xs = [v] ∧ Shw H v d ∧ d.showable = true ∧ d.depth ≤ 64 ∧ d.shown.length ≤ sizeLine ∧ Q (.str d.shown) H
theorem call_repr {X : Cx} (hg : X.A.guards = some []) (hu : X.A.units + 100 < cLine) (hm : (X.K.lookup sysModules).isSome = true) : CallR X (.builtin "repr") rRepr := by
  intro pins s σ H xs us Q I r h
  obtain ⟨v, d, rfl, sh, hs, hd, hz, q⟩ := h
  obtain ⟨u, rfl, ru⟩ := vals1 r
  have deep : ∀ a, v = .ref a → wpAny (model X.prog X.w) X.A (call (.builtin "repr") [u]) (EP X pins σ Q) X.xe s := by
    rintro a rfl
    obtain rfl : u = Value.ref a := ru
    obtain ⟨as, hr, hn⟩ := sh.reads I.hok rfl
    obtain ⟨o, ho⟩ := Option.isSome_iff_exists.mp hm
    have nm : sysModules ∉ as := fun z => hn _ z (I.bs _ _ (I.mod.kin _ _ ho)).2
    exact repr_of_reads' hr hs (fun _ => nm) hg (by omega) (fun _ _ e => e) (fun h' u tk k => ⟨.str _, H, I.kept k, ⟨_, rfl⟩, q⟩) hz
  cases sh with
  | non =>
    obtain rfl : u = Value.none := ru
    exact PySem.P.repr_of_none ⟨.str _, H, I.tok _, ⟨_, rfl⟩, q⟩
  | bl b =>
    obtain rfl : u = Value.bool b := ru
    exact PySem.P.repr_of_bool ⟨.str _, H, I.tok _, ⟨_, rfl⟩, q⟩
  | int i =>
    obtain ⟨t, rfl⟩ := ru
    exact PySem.P.repr_of_int (of_decide_eq_true hs) ⟨.str _, H, I.tok _, ⟨_, rfl⟩, q⟩
  | str x =>
    obtain ⟨t, rfl⟩ := ru
    exact PySem.P.repr_of_str ⟨.str _, H, I.tok _, ⟨_, rfl⟩, q⟩ hz
  | lst _ _ => exact deep _ rfl
  | tup _ _ => exact deep _ rfl
  | dK _ _ => exact deep _ rfl
/-- small data -/
structure Sm (B : Nat) (d : PyData) : Prop where
  sh : d.showable = true
  dp : d.depth ≤ 5
  ln : d.shown.length ≤ B
theorem Sm.mono {B C : Nat} {d : PyData} (h : Sm B d) (hb : B ≤ C) : Sm C d := ⟨h.sh, h.dp, Nat.le_trans h.ln hb⟩
/-- a list's or tuple's own data out of its items' -/
theorem items_of {H : Hp} {B : Nat} : ∀ {xs : List V}, (∀ y ∈ xs, ∃ d, Shw H y d ∧ d.showable = true ∧ d.depth ≤ 4 ∧ d.shown.length ≤ B) → ∃ ds, ShwA H xs ds ∧ PyData.showableAll ds = true ∧ PyData.depthAll ds ≤ 4 ∧ ((PyData.shownAll ds).map (·.length)).sum ≤ xs.length * B ∧ (PyData.shownAll ds).length = xs.length
  | [], _ => ⟨[], .nil, rfl, Nat.zero_le _, Nat.zero_le _, rfl⟩
  | y :: r, h => by
    obtain ⟨d, h1, h2, h3, h4⟩ := h y List.mem_cons_self
    obtain ⟨ds, g1, g2, g3, g4, g5⟩ := items_of fun z hz => h z (List.mem_cons_of_mem _ hz)
    refine ⟨d :: ds, .cons h1 g1, ?_, ?_, ?_, ?_⟩
    · show (d.showable && PyData.showableAll ds) = true
      rw [h2, g2]; rfl
    · show max d.depth (PyData.depthAll ds) ≤ 4
      omega
    · show ((d.shown :: PyData.shownAll ds).map (·.length)).sum ≤ (r.length + 1) * B
      rw [List.map_cons, List.sum_cons, Nat.succ_mul]
      omega
    · show (d.shown :: PyData.shownAll ds).length = _
      rw [List.length_cons, List.length_cons, g5]
theorem row_shw {H : Hp} {B : Nat} {a : Addr} {xs : List V} (ha : Rd H a (.lst xs) ∨ H a = some (.tup xs)) (h : ∀ y ∈ xs, ∃ d, Shw H y d ∧ d.showable = true ∧ d.depth ≤ 4 ∧ d.shown.length ≤ B) : ∃ d, Shw H (.ref a) d ∧ Sm (xs.length * (B + 2) + 3) d := by
  obtain ⟨ds, g1, g2, g3, g4, g5⟩ := items_of h
  have key : ((PyData.shownAll ds).map (·.length)).sum + 2 * (PyData.shownAll ds).length + 3 ≤ xs.length * (B + 2) + 3 := by
    rw [g5, Nat.mul_add]
    omega
  rcases ha with ha | ha
  · exact ⟨_, .lst ha g1, g2, by show PyData.depthAll ds + 1 ≤ 5; omega, Nat.le_trans (listText_len_le _) key⟩
  · exact ⟨_, .tup ha g1, g2, by show PyData.depthAll ds + 1 ≤ 5; omega, Nat.le_trans (tupleText_len_le _) key⟩
end Ox

/-! Own layer: defs that raise, own exceptions without __init__, try .. except X as e. -/
namespace Ox
open PySem PySem.Spec PyProof.Rows L2
/-- the module's name x is an own exception class at C, under ValueError, without own __init__ -/
structure Exc0 (K : PySem.W.Frag) (mg : Str → Option Value) (x : Str) (C : Addr) : Prop where
  gC : mg x = some (.ref C)
  xC : PySem.W.excIn K C veB "ValueError.__new__" = true
  kC : PySem.W.keepIn K (.ref C) = true
  bC : PySem.W.subIn K (.ref C) (.type "BaseException") = some true
  tC : PySem.W.typeIn K (.ref C) = some (.type "type")
theorem exc0F_ok {x : Str} {K : PySem.W.Frag} {mg : Str → Option Value} (g : mg x = some (.ref (He.ga K x))) (h : exc0F x K = true) : Exc0 K mg x (He.ga K x) := by
  obtain ⟨h1, h⟩ := Bool.and_eq_true_iff.mp h
  obtain ⟨h2, h⟩ := Bool.and_eq_true_iff.mp h
  obtain ⟨h3, h4⟩ := Bool.and_eq_true_iff.mp h
  exact ⟨g, h1, h2, of_decide_eq_true h3, of_decide_eq_true h4⟩
theorem excCF_ok {x : Str} {K : PySem.W.Frag} (h : excCF x K = true) : ExcC K (He.ga K x) := by
  obtain ⟨h1, h⟩ := Bool.and_eq_true_iff.mp h
  obtain ⟨h2, h⟩ := Bool.and_eq_true_iff.mp h
  obtain ⟨h3, h⟩ := Bool.and_eq_true_iff.mp h
  obtain ⟨h4, h5⟩ := Bool.and_eq_true_iff.mp h
  have t := xfB_ok h1
  exact ⟨t.ga, t.gg, t.exC, t.hdC, He.eqO_ok h2, He.eqO_ok h3, of_decide_eq_true h4, of_decide_eq_true h5⟩
theorem exmF_ok {C D : Str} {b : Bool} {K : PySem.W.Frag} (h : exmF C D b K = true) : PySem.W.exmOne K (.ref (He.ga K C)) (.ref (He.ga K D)) = some b := of_decide_eq_true h
theorem kitTF_ok {C : Str} {T : String} {b : Bool} {K : PySem.W.Frag} (h : kitTF C T b K = true) : PySem.W.kitOne K (.ref (He.ga K C)) (.type T) = some b := of_decide_eq_true h
/-! ### callees that may raise -/
section
variable (P : Program) (w : World) (K : PySem.W.Frag) (mg : Str → Option Value) (base : Heap)
structure CalX (k : Nat) (x : Str) (ps : List Str) (sp : Sp) : Prop where
  ex : ∃ f fd, FnOk P w K mg base (L2.CX P w) k f fd ps sp ∧ mg x = some (.ref f) ∧ PySem.W.keepIn K (.ref f) = true ∧ Binds K fd ps []
structure MetX (C : Addr) (k : Nat) (m : Str) (ps : List Str) (sp : Sp) : Prop where
  ex : ∃ f fd, Meth K C m f ∧ FnOk P w K mg base (L2.CX P w) k f fd ps sp ∧ Binds K fd ps []
end
/-- a wish that nothing is let out -/
def W0 : WX := fun _ _ _ _ => False
theorem takesN {X : Cx} : Takes X W0 := takes0
section
variable {X : Cx} {k : Nat} {x : Str} {ps : List Str} {sp : Sp} {e : Expr} {es : List Expr} {t : TA} {pos p : Pos} {W : WX}
theorem pe_calX (c : CalX X.prog X.w X.K X.mg X.base k x ps sp) (hr : Room k X.A) (hg : Gl X x) (tk : Takes X W) (ha : PA X (e :: es) t)
    (hs : starEach (e :: es) X.env = (false, eval e X.env) :: starEach es X.env := by rfl) (hp : (backTo pos (starEach es X.env)).any (·.1) = false := by rfl)
    (hdb : (x == ("__debug__" : Str)) = false := by decide) : PE X (.Call (.Name x p) (e :: es) [] pos) (tCallS sp (WE W) t) := by
  obtain ⟨f, fd, F, g, kp, b⟩ := c.ex
  exact pe_callS F hr hg g kp b (fun σ => passAt tk σ) ha hdb hs hp
/-- X() -/
theorem pmk_own0 {C : Addr} (c : Exc0 X.K X.mg x C) (hg : Gl X x) (hdb : (x == ("__debug__" : Str)) = false := by decide) :
    PMk X (.Call (.Name x p) [] [] pos) (fun _ H Q => Q (.ref C) none H) := by
  intro pins s σ H Q I h
  refine wpAny_Call_Name_kw (ld_glob I hg c.gC ?_ hdb)
  refine PySem.W.callWith_K0 I.kIn c.kC ?_
  show wpAny _ _ (call (.ref C) []) _ _ _
  obtain ⟨bm, N, nm, qn, bs, hdct, sn, sub, ab, col, dd, k0, k1, k2, k3, k5, mN, hC, hN, hni, T⟩ := exc_obj I.kIn c.xC
  refine wpAny_call_exc_subT PySem.F.excBase_ValueError T hC hN hni (fun h' e hm => ?_) (Nat.zero_le _)
  exact mk_of I hm (raises_own c.bC c.tC) h (I.hok.gone hm.new)
/-- raise X() -/
def tRaise0 (C : Addr) (W : WX) : TS := fun _ σ H => W (.ref C) none σ H
theorem ps_raise0 {C : Addr} {pos2 : Pos} (hc : X.calm = true) (tk : Takes X W) (c : Exc0 X.K X.mg x C) (hg : Gl X x) (hdb : (x == ("__debug__" : Str)) = false := by decide) :
    PS X (.Raise (some (.Call (.Name x p) [] [] pos)) none pos2) (tRaise0 C W) := ps_raise hc tk (pmk_own0 c hg hdb)
/-- the same reading in another word -/
theorem psEq {b : List Stmt} {u v : TS} (h : PSs X b u) (e : v = u := by rfl) : PSs X b v := by
  rw [e]
  exact h
end
section
variable {σ : L2.St} {H : Hp} {Q : VK} {D : Ends} {W : WX} {sp : Sp} {E : L2.St → XK} {t : TA} {C : Addr} {K : PySem.W.Frag}
theorem x_callS (q : t σ H fun vs H1 => sp vs H1 Q (E σ)) : tCallS sp E t σ H Q := q
theorem x_raise0 (q : W (.ref C) none σ H) : tRaise0 C W D σ H := q
end
/-! ### try .. except X as n -/
/-- its reading -/
def tTry (K : PySem.W.Frag) (c : Value) (i : Nat) (tb : WX → TS) (ts : Addr → Value → Option Addr → TS) (Wout : WX) : TS := fun D σ H => tb (wAs K c i ts Wout D) D σ H
/-- the ends of a suite whose name goes -/
def sEnds (i : Nat) (D : Ends) : Ends := { nx := fun σ' H' => D.nx (σ'.set i none) H', rt := D.rt, bk := fun σ' H' => D.bk (σ'.set i none) H', ct := fun σ' H' => D.ct (σ'.set i none) H' }
section
variable {σ : L2.St} {H : Hp} {D : Ends} {K : PySem.W.Frag} {c cls : Value} {d : Option Addr} {i : Nat} {tb : WX → TS} {ts : Addr → Value → Option Addr → TS} {Wout : WX}
theorem x_try (q : tb (wAs K c i ts Wout D) D σ H) : tTry K c i tb ts Wout D σ H := q
/-- caught -/
theorem x_caught (e : PySem.W.exmOne K cls c = some true) (q : ∀ a, H a = none → ts a cls d (sEnds i D) (σ.set i (some (.ref a))) H) : wAs K c i ts Wout D cls d σ H :=
  ⟨true, e, fun _ a ha => q a ha, fun z => nomatch z⟩
theorem x_caughtE (e : PySem.W.exmOne K cls c = some true) (q : ∀ a, H a = none → ts a cls d (sEnds i D) (σ.set i (some (.ref a))) H) : WE (wAs K c i ts Wout D) σ cls d H := x_caught e q
end
section
variable {X : Cx} {x n : Str} {c : Value} {i : Nat} {body suite : List Stmt} {b₀ : Stmt} {np pos pos' : Pos} {tb : WX → TS} {ts : Addr → Value → Option Addr → TS} {Wout : WX}
theorem ps_tryAs (hN : X.N.Nodup) (hs : X.stack = X.env :: X.outer) (hf : X.env.frame = some X.env.locals) (hi : X.N[i]? = some n) (hln : X.env.kindOf n = some .local) (hg : Gl X x) (hm : X.mg x = some c) (tk : Takes X Wout)
    (hb : ∀ (W : WX) (pn : List (Addr × Obj)) (xe : Value → Shared → Prop), Takes (X.tr pn xe) W → PassesOwn (model X.prog X.w) X.A X.env xe → PSs (X.tr pn xe) body (tb W))
    (hsu : ∀ (a : Addr) (oe : Obj) (cls : Value) (d : Option Addr) (pn : List (Addr × Obj)), Zc cls d oe → (∃ vs, oe.data = .fields vs) → PSs (X.suite a ((a, oe) :: pn)) (b₀ :: suite) (ts a cls d)) (hdb : (x == ("__debug__" : Str)) = false := by decide) :
    PS X (.Try body [.ExceptHandler (some (.Name x np)) (some n) (b₀ :: suite) pos'] [] [] pos) (tTry X.K c i tb ts Wout) :=
  ps_try_as hs hf hN hi hln ⟨hg, hdb, .inl hm⟩ tk hb hsu
end
/-! ### isinstance(e, C), e the caught one -/
def rIsX (K : PySem.W.Frag) (a : Addr) (cls : Value) (d : Option Addr) : List V → Hp → VK → Prop := fun xs H Q => ∃ D, cls = .ref D ∧ d = none ∧ ExcC K D ∧ rIsE K D a xs H Q
theorem call_isX {X : Cx} {a : Addr} {cls : Value} {d : Option Addr} {oe : Obj} {pn : List (Addr × Obj)} (hz : Zc cls d oe) (hf : ∃ vs, oe.data = .fields vs) : CallR (X.suite a ((a, oe) :: pn)) (.builtin "isinstance") (rIsX X.K a cls d) := by
  intro pins s σ H xs us Q I r h
  obtain ⟨D, rfl, rfl, hC, h⟩ := h
  exact call_isE hC hz hf pins s σ H xs us Q I r h
section
variable {H : Hp} {Q : VK} {K : PySem.W.Frag} {a D C : Addr} {b : Bool}
theorem x_isX (hC : ExcC K D) (e : PySem.W.kitOne K (.ref D) (.ref C) = some b) (q : Q (.bl b) H) : rIsX K a (.ref D) none [.ref a, .ref C] H Q :=
  ⟨D, rfl, rfl, hC, _, _, _, rfl, fun u r => r, e, q⟩
theorem x_isXT {T : String} (hC : ExcC K D) (e : PySem.W.kitOne K (.ref D) (.type T) = some b) (q : Q (.bl b) H) : rIsX K a (.ref D) none [.ref a, .ty T] H Q :=
  ⟨D, rfl, rfl, hC, _, _, _, rfl, fun u r => r, e, q⟩
end
end Ox

/-! Own layer: own exceptions whose __init__ says super().__init__('..') and lays one field. -/
namespace PySem
namespace SupX
open PySem.W PySem.Calls PyProof.Rows PySem.HandSPX
def iA (y : Str) (p1 p2 : Pos) : Arguments := { posonlyargs := [], args := [{ arg := "self", annotation := none, pos := p1 }, { arg := y, annotation := none, pos := p2 }], vararg := none, kwonlyargs := [], kw_defaults := [], kwarg := none, defaults := [] }
def iB (y txt : Str) (q1 q2 q3 q4 q5 q6 q7 q8 q9 q10 : Pos) : List Stmt :=
  [.Expr (.Call (.Attribute (.Call (.Name "super" q1) [] [] q2) "__init__" q3) [.Constant (.str txt) 0 q4] [] q5) q6, .Assign [.Attribute (.Name "self" q7) y q8] (.Name y q9) q10]
def iS (y : Str) : Scope := { kind := .function, names := [(PySem.Str.ofString "self", .local), (y, .local), (PySem.Str.ofString "__class__", .free), (PySem.Str.ofString "super", .globalImplicit)], isGenerator := false, isCoroutine := false, more := [] }
/-- the fields that the text has -/
def Fld (y : Str) : Prop := y = "part" ∨ y = "name" ∨ y = "index" ∨ y = "most" ∨ y = "line"
structure SupTxt (P : Program) (K : Frag) (mg : Str → Option Value) (x y : Str) (C fI : Addr) : Prop where
  fld : Fld y
  gC : mg x = some (.ref C)
  noS : mg "super" = none
  cls : ∃ nm q N bs bm sn sub ab col dd k0 k1 k2 k3 k5, K.lookup C = some (excClassObj nm q C N bs bm true sn sub ab col dd k0 k1 k2 k3 k5 "ValueError.__new__") ∧ refsVE bm = true
  sa : findIn K (.ref C) "__setattr__" = some (some (.builtin "object.__setattr__"))
  ga : findIn K (.ref C) "__getattribute__" = some (some (.builtin "BaseException.__getattribute__"))
  gg : findIn K (.ref C) "__getattr__" = some none
  noN : findIn K (.ref C) y = some none
  iC : findIn K (.ref C) "__init__" = some (some (.ref fI))
  tC : typeIn K (.ref fI) = some (.type "function")
  kC : keepIn K (.ref C) = true
  exC : subIn K (.ref C) (.type "BaseException") = some true
  veC : subIn K (.ref C) (.type "ValueError") = some true
  mrC : mroIn K C (.ref C) = some true
  tyC : typeIn K (.ref C) = some (.type "type")
  hdC : hasDictIn K C = true
  opq : nsIn K cStatics "thirdparty.any" = some none
  sup : ks_superIn K C C "__init__" = some (some (.builtin "ValueError.__init__"))
  top : (P.main.scope.names.lookup ("super" : Str)).isSome = false
  fn : ∃ (oc : Value) (od : Option Addr) (kV doc pm : Value) (an : Option Addr) (cda : Addr) (ct : Value) (osl : Array (Option Value)) (qual txt : Str) (cc : Addr) (p1 p2 q1 q2 q3 q4 q5 q6 q7 q8 q9 q10 : Pos),
    K.lookup fI = some ⟨oc, od, .func (ksFn "__init__" qual (iA y p1 p2) (iB y txt q1 q2 q3 q4 q5 q6 q7 q8 q9 q10) (iS y) .none kV doc pm an (.ref cda) ct cc), osl⟩ ∧ codeIn K (.ref cda) qual = true ∧
    (∃ (ccl : Value) (cdd : Option Addr) (vs : Array Value) (ccs : Array (Option Value)) (file : Str) (tf : Tok), K.lookup cda = some ⟨ccl, cdd, .fields vs, ccs⟩ ∧ vs[2]? = some (.str file tf) ∧ ((P.main.file : Str) == file) = true) ∧
    (∃ (cl : Value) (cld : Option Addr) (csl : Array (Option Value)), K.lookup cc = some ⟨cl, cld, .cell (some (.ref C)), csl⟩) ∧ (q3.endLine == q5.line) = true
theorem one_size (v : Value) : [v].length ≤ sizeLine := by
  rw [sizeLine_eq]
  exact (by decide : 1 ≤ 16777216)
structure InitEnd (h h' : Heap) (x C dx t1 : Addr) (y : Str) (v : Value) : Prop where
  keep : ∀ b o, b ≠ x → h.get? b = some o → h'.get? b = some o
  obj : h'.get? x = some { cls := .ref C, dict := some dx, data := .fields #[.ref t1, .none, .none, .none, .bool false, .none] }
  dbig : h.objs.size ≤ dx
  dne : dx ≠ x
  ns : h'.Ns1 dx (fun z => if z = y then some v else none)
structure OwnMade (h h' : Heap) (e C d : Addr) (y : Str) (v : Value) : Prop where
  keep : ∀ b o, h.get? b = some o → h'.get? b = some o
  new : h.objs.size ≤ e
  obj : ∃ oe vs, h'.get? e = some oe ∧ oe.cls = .ref C ∧ oe.dict = some d ∧ oe.data = .fields vs ∧ vs[1]? = some .none
  dbig : h.objs.size ≤ d
  dne : d ≠ e
  ns : h'.Ns1 d (fun z => if z = y then some v else none)
theorem ld {M : Model} {A : Around} {E : Value → Shared → Prop} {s : Shared} {env : Env} {m : Str → Option Value} {x : Str} {pos : Pos} {v : Value} {Q : Value → Shared → Prop} (hn : s.heap.Ns env.locals m) (hv : m x = some v) (h : Q v s)
    (hk : env.scope.kind = .function := by rfl) (hl : env.kindOf x = some .local := by rfl) (hd : (x == ("__debug__" : Str)) = false := by decide) :
    wpAny M A (eval (.Name x pos) env) Q E s := wpAny_Name (wpAny_loadName_local hk hl hn hv h) hd
theorem call_eq {o a : Expr} {name : Str} {q3 q5 : Pos} {env : Env} (hline : (q3.endLine == q5.line) = true) (ha : starEach [a] env = [(false, eval a env)]) : eval (.Call (.Attribute o name q3) [a] [] q5) env = (do
      let ov ← attributeBase o name env (eval o env)
      standAt q3.atName
      let (f, first) ← holding [ov] (getMethod ov name (do return (← importBound o env).getD true))
      callWith q5 f first (backTo q5 (starEach [a] env)) []) := by
  show (do
    let ov ← attributeBase o name env (eval o env)
    standAt q3.atName
    methodCall o name q3 q5 env ov 1 (backTo q5 (starEach [a] env)) []) = _
  unfold methodCall methodCallPos calleeOf
  have hf : methodCallForm 1 (backTo q5 (starEach [a] env)) [] = true := by rw [ha]; rfl
  rw [hf, hline]
  rfl
section
variable {prog : Program} {w : World} {A : Around} {E : Value → Shared → Prop}
/-- the wrapper called: ValueError.__init__ of the object anew -/
theorem call_mw {h : Heap} {g : Array GenState} {d : Drawn} {t : Nat} {os : OsState} {nm q : Str} {C N : Addr} {bs bm : List Value} {hdct : Bool} {sn : List Str} {sub : List Value} {ab : Bool} {col : Option Bool} {dd : Option Addr} {k0 k1 k2 k3 k5 : Option Value}
    {u e t0 : Addr} {rest : List Value} {Q : Value → Shared → Prop}
    (hC : h.get? C = some (excClassObj nm q C N bs bm hdct sn sub ab col dd k0 k1 k2 k3 k5 "ValueError.__new__")) (he : h.get? e = some (excO C t0)) (hu : h.get? u = some (kxs_mw "ValueError.__init__" e)) (hrest : rest.length ≤ sizeLine)
    (hq : ∀ h' t1, (∀ b o, b ≠ e → h.get? b = some o → h'.get? b = some o) → h'.get? e = some (excO C t1) → Q .none ⟨h', g, d, t, os⟩) :
    wpAny (model prog w) A (call (.ref u) rest) Q E ⟨h, g, d, t, os⟩ := by
  refine wpAny_call (codeAny_of_tree ?_)
  show wpAny _ A.in1 (callAny (.ref u) ⟨rest, []⟩) _ _ _
  simp only [callAny]
  refine wpAny_bind (wpAny_load hu ?_)
  simp only [kxs_mw, show (Value.type "method-wrapper" == Value.type "method" || Value.type "method-wrapper" == Value.type "builtin_function_or_method" || Value.type "method-wrapper" == Value.type "method-wrapper") = true by decide, if_true]
  refine W.KFB.if_so (by decide) ?_
  refine wpAny_bind (check_bound_init F.excBase_ValueError.toExcCallFacts hC he rfl ?_)
  refine wpAny_bind (wpAny_pure (wpAny_pure ?_))
  refine ⟨plainId_quiet F.excBase_ValueError.init.plain _, codeAny_builtin F.excBase_ValueError.initEntry ?_⟩
  rw [Around.under_plainId F.excBase_ValueError.init.plain _]
  wp_walk
  refine hq _ h.objs.size (fun b o hb ho => ?_) ?_
  · rw [Heap.get?_update_other _ _ (Ne.symm hb)]
    exact Heap.get?_push_of_some _ ho
  · rw [Heap.get?_update_self _ (Heap.get?_push_of_some _ he) rfl]
    rfl
end
section
variable {prog : Program} {w : World} {A : Around} {E : Value → Shared → Prop} {R : Result → Shared → Prop} {s : Shared} {K : Frag} {mg : Str → Option Value} {x y : Str} {C fI : Addr}
theorem sup_init (T : SupTxt prog K mg x y C fI) {e t0 : Addr} {v : Value} (X : K.In s.heap) (hlim : s.heap.NoLimit) (hg : s.heap.Ns mainGlobals mg) (hb : ∃ mb, s.heap.Ns builtinsNs mb ∧ ∀ z : Str, z ≠ "__name__" → mb z = bootBuiltins z)
    (hx : s.heap.get? e = some (excO C t0)) (hnx : K.lookup e = none) (hroom : A.depth < recursionLimit)
    (hq : ∀ h' tk dx t1, InitEnd s.heap h' e C dx t1 y v → R (.ok (.ret .none)) { s with heap := h', toks := tk }) :
    codeAny (model prog w) A (.call (.ref fI) ⟨[.ref e, v], []⟩) R s := by
  obtain ⟨oc, od, kV, doc, pm, an, cda, ct, osl, qual, txt, cc, p1, p2, q1, q2, q3, q4, q5, q6, q7, q8, q9, q10, ho, hcd, ⟨ccl, cdd, vs, ccs, file, tf, hcda, hvs, hfile⟩, ⟨cl, cld, csl, hcc⟩, hline⟩ := T.fn
  obtain ⟨nm, q, N, bs, bm, sn, sub, ab, col, dd, k0, k1, k2, k3, k5, hC, hbm⟩ := T.cls
  have hcl : clsIn K C = some { name := nm, bases := bs, mro := .ref C :: bm, ns := N, qualname := q, hasDict := true, slotNames := sn, subclasses := sub, abstract := ab, collection := col, hasDel := false } := by unfold clsIn; rw [hC] <;> rfl
  have hsup := T.sup
  unfold ks_superIn at hsup
  rw [hcl] at hsup
  have noN := T.noN
  have fld := T.fld
  have sa := T.sa
  have veC := T.veC
  have mrC := T.mrC
  have opq := T.opq
  have noS := T.noS
  have top := T.top
  clear T
  rcases fld with rfl | rfl | rfl | rfl | rfl
  all_goals
    refine ks_codeAny_call_defAt (fd := ksFn "__init__" qual (iA _ p1 p2) (iB _ txt q1 q2 q3 q4 q5 q6 q7 q8 q9 q10) (iS _) .none kV doc pm an (.ref cda) ct cc) (body := iB _ txt q1 q2 q3 q4 q5 q6 q7 q8 q9 q10) (binds := [("self", .ref e), (_, v)]) hroom (X _ _ ho) rfl hlim (codeRec_of X hcd) rfl
      (BindsTo.of_eq (by first | rfl | with_unfolding_all rfl)) (by
        intro z hz
        have hz' : z ∈ (iS _).names := hz
        simp only [iS, List.mem_cons, List.not_mem_nil, or_false] at hz'
        rcases hz' with rfl | rfl | rfl | rfl <;> decide)
      (by
        intro z hz
        simp only [List.mem_cons, List.not_mem_nil, or_false] at hz
        rcases hz with rfl | rfl <;> first | rfl | decide | decide +kernel) (fun h₁ hn k => ?_) rfl rfl rfl
    obtain ⟨hp, g, d, t, os⟩ := s
    have X₁ : K.In h₁ := X.keeps k
    have hx₁ := k _ _ hx
    have hL : hp.objs.size ≠ e := Nat.ne_of_gt (Heap.lt_size hx)
    refine ks_wpAt_execs_cons (ks_wpAt_Expr_any (ks_wpAt_MethodCall ?_ (call_eq hline rfl)))
    refine ks_wpAt_super_base (f := fI) (cc := cda) (by first | rfl | with_unfolding_all rfl) (by first | rfl | with_unfolding_all rfl) (by decide) rfl (X₁ _ _ ho) rfl (by rfl) rfl (X₁ _ _ hcda) rfl hvs hfile top ?_
    obtain ⟨mb, hmb, hmbv⟩ := hb
    refine ks_loadName_global rfl (by first | rfl | with_unfolding_all rfl) (loadGlobal_builtin (hg.keeps k) noS (hmb.keeps k) ((hmbv _ (by decide)).trans (by first | rfl | decide +kernel | kernel_rfl)) ⟨rfl, ?_⟩)
    refine wpAny_loadName_free rfl (by first | rfl | with_unfolding_all rfl) (by first | rfl | with_unfolding_all rfl) ⟨_, X₁ _ _ hcc, rfl⟩ ?_
    refine wpAny_loadName_local rfl (by first | rfl | with_unfolding_all rfl) hn (v := .ref e) (by first | rfl | with_unfolding_all rfl | kernel_rfl) ?_
    refine ks_wpAny_isType_cls (X₁ _ _ hC) rfl ⟨rfl, ?_⟩
    refine ks_wpAny_call_super (X₁ _ _ hC) rfl hx₁ rfl (fun c z => by cases z) (looks_mroIn X₁ mrC) (fun h₂ hso k₂ => ?_)
    have X₂ : K.In h₂ := X₁.keeps k₂
    have hx₂ := k₂ _ _ hx₁
    have hneC : e ≠ C := fun z => by rw [z, hC] at hnx; cases hnx
    have I₂ : InstAt h₂ e (excO C t0) C none := ⟨hx₂, rfl, rfl, trivial⟩
    refine kxs_getMethod kxs_ValueError hso (looks_opaque X₂ opq) (l₀ := .ref C :: bm) (fun A Q E s k q => wpAny_bind ((looks_clsIn X₂ hcl) A _ E s k (wpAny_pure q))) rfl X₂ hsup (I₂.type.andThen (looks_subIn X₂ veC)) hneC (by decide) ?_
    refine kxs_callWith (i := "ValueError.__init__") (x := e) (by rfl) (evalArgs_plain (spliced_cons (wpAny_Constant_str (k := 0) (pos := q4) (spliced_nil ⟨Heap.get?_push_at rfl rfl, ?_⟩))))
    have up : ∀ b o, h₂.get? b = some o → (h₂.push (kxs_mw "ValueError.__init__" e)).get? b = some o := fun b o z => Heap.get?_push_of_some _ z
    refine call_mw (up _ _ (X₂ _ _ hC)) (up _ _ hx₂) (Heap.get?_push_at rfl rfl) (one_size _) (fun h₃ t1 k₃ hx₃ => ?_)
    have kk : ∀ b o, b ≠ e → h₁.get? b = some o → h₃.get? b = some o := fun b o z q => k₃ b o z (up _ _ (k₂ _ _ q))
    have X₃ : K.In h₃ := fun a o q => kk a o (fun z => by rw [z, hnx] at q; cases q) (X₁ a o q)
    obtain ⟨oL, es, ep, hoL, rL⟩ := hn
    have hn₃ : h₃.Ns hp.objs.size _ := ⟨oL, es, ep, kk _ _ hL hoL, rL⟩
    show wpAt _ _ _ (execs _ _) _ _ _
    refine wpAt_of_wpAny ?_
    refine wpAny_execs_cons (plainObj_wpAny_Assign_Attribute ?_)
    refine ld (v := v) hn₃ (by first | rfl | with_unfolding_all rfl | kernel_rfl) (ld (v := .ref e) hn₃ (by first | rfl | with_unfolding_all rfl | kernel_rfl) ?_)
    refine set_plain X₃ (ox := excO C t1) (od := none) ⟨hx₃, rfl, rfl, trivial⟩ sa ?_
    refine exc_osa X₃ hx₃ hcl (show refsVE (.ref C :: bm) = true from hbm) rfl noN (fun h₄ tk₄ dx k₄ dn dne hx₄ hn₄ => ?_)
    refine wpAny_execs_nil (hq h₄ tk₄ dx t1 ⟨fun b o hb z => k₄ b o hb (kk b o hb (k b o z)), hx₄, ?_, dne, hn₄⟩)
    have z := Heap.lt_size (kk _ _ hL hoL)
    exact Nat.le_of_lt (Nat.lt_of_lt_of_le z dn)
theorem sup_made (T : SupTxt prog K mg x y C fI) {v : Value} (X : K.In s.heap) (hlim : s.heap.NoLimit) (hg : s.heap.Ns mainGlobals mg) (hb : ∃ mb, s.heap.Ns builtinsNs mb ∧ ∀ z : Str, z ≠ "__name__" → mb z = bootBuiltins z) (hroom : A.depth + 1 < recursionLimit)
    (hq : ∀ h' tk e d, OwnMade s.heap h' e C d y v → R (.ok (.ret (.ref e))) { s with heap := h', toks := tk }) :
    codeAny (model prog w) A (.call (.ref C) ⟨[v], []⟩) R s := by
  obtain ⟨nm, q, N, bs, bm, sn, sub, ab, col, dd, k0, k1, k2, k3, k5, hC, hbm⟩ := T.cls
  obtain ⟨hp, g, dr, tk, os⟩ := s
  have k : ∀ b o, hp.get? b = some o → ((hp.push (kdv_tup [v])).push (excO C hp.objs.size)).get? b = some o := fun b o e => Heap.get?_push_of_some _ (Heap.get?_push_of_some _ e)
  have hget : ((hp.push (kdv_tup [v])).push (excO C hp.objs.size)).get? (hp.objs.size + 1) = some (excO C hp.objs.size) := by heap_get
  have hnx : K.lookup (hp.objs.size + 1) = none := by
    cases e : K.lookup (hp.objs.size + 1) with
    | none => rfl
    | some o =>
      have z : hp.get? (hp.objs.size + 1) = some o := X _ _ e
      exact absurd (Nat.lt_of_succ_lt (Heap.lt_size z)) (Nat.lt_irrefl _)
  refine call_own F.excBase_ValueError (fun X => refsVE_contains X bm hbm) (X _ _ hC) (looks_findIn X T.iC) (fun self => bind_fn X self T.tC) (one_size v) ?_
  obtain ⟨mb, hmb, hmv⟩ := hb
  refine sup_init (s := ⟨(hp.push (kdv_tup [v])).push (excO C hp.objs.size), g, dr, tk, os⟩) T (X.keeps k) (hlim.keeps k) (hg.keeps k) ⟨mb, hmb.keeps k, hmv⟩ hget hnx ?_ fun h' tk' dx t1 ⟨k', hx, dn, dne, hns⟩ => ?_
  · show A.depth + 1 < recursionLimit
    exact hroom
  · have old : ∀ b o, hp.get? b = some o → h'.get? b = some o := fun b o e => k' b o (Nat.ne_of_lt (Nat.lt_succ_of_lt (Heap.lt_size e))) (k b o e)
    have z : hp.objs.size + 1 + 1 ≤ dx := by
      first
        | (simpa only [Heap.size_push] using dn)
        | exact dn
        | (have q := dn; rw [Heap.size_push, Heap.size_push] at q; exact q)
    exact ⟨rfl, hq h' tk' (hp.objs.size + 1) dx ⟨old, Nat.le_succ _, ⟨_, _, hx, rfl, rfl, rfl, rfl⟩, Nat.le_trans (Nat.le_trans (Nat.le_succ _) (Nat.le_succ _)) z, dne, hns⟩⟩
end
end SupX
end PySem
namespace Ox
open PySem PySem.Spec PyProof.Rows L2
theorem relO_one {y : Str} {v : V} {v' : Value} (r : RelV v v') (f : Str) : RelO (List.lookup f [(y, v)]) (if f = y then some v' else none) := by
  by_cases hw : f = y
  · subst hw
    rw [if_pos rfl]
    have q : List.lookup f [(f, v)] = some v := by simp [List.lookup]
    rw [q]
    exact r
  · rw [if_neg hw]
    have qw : (f == y) = false := by simpa using hw
    have q2 : List.lookup f [(y, v)] = none := by simp [List.lookup, qw]
    rw [q2]
    trivial
section
variable {X : Cx} {x y : Str} {C fI : Addr}
/-- the class x, its own field y -/
structure ExcF (P : Program) (K : PySem.W.Frag) (mg : Str → Option Value) (x y : Str) (C : Addr) : Prop where
  ex : ∃ fI, PySem.SupX.SupTxt P K mg x y C fI
/-- X(e) -/
def tMkS (C : Addr) (y : Str) (ta : TA) : L2.St → Hp → XK → Prop := fun σ H Q => ta σ H fun vs H1 => ∃ v, vs = [v] ∧ ∀ d, H1 d = none → Q (.ref C) (some d) (upd H1 d (.xd [(y, v)]))
theorem pmk_sup {a : Expr} {ta : TA} {p pos : Pos} {k : Nat} (T : ExcF X.prog X.K X.mg x y C) (hr : Room k X.A) (ha : PA X [a] ta) (hg : Gl X x)
    (hdb : (x == ("__debug__" : Str)) = false := by decide) (he : starEach (a :: []) X.env = (false, eval a X.env) :: starEach [] X.env := by rfl) (hpl : (backTo pos (starEach [] X.env)).any (·.1) = false := by rfl) :
    PMk X (.Call (.Name x p) [a] [] pos) (tMkS C y ta) := by
  obtain ⟨fI, T⟩ := T.ex
  intro pins s σ H Q I h
  refine wpAny_Call_Name_kw (ld_glob I hg T.gC ?_ hdb)
  refine PySem.W.callWith_K (h₀ := X.base) I.ok.mod.kin T.kC (thn (ha.run pos pins s σ H _ I h) fun us s1 hh => ?_) he hpl
  obtain ⟨vs, H1, I1, r1, v, ev, q1⟩ := hh
  subst ev
  refine ⟨I1.kIn, ?_⟩
  cases r1 with
  | cons rv rn =>
    rename_i v' us'
    cases rn
    show wpAny _ _ (call (.ref C) [v']) _ _ _
    have hlim := I1.nolimit
    obtain ⟨mb, hmb, hmv⟩ := I1.mod.blt
    have hbl : ∃ mb, s1.heap.Ns builtinsNs mb ∧ ∀ z : Str, z ≠ "__name__" → mb z = bootBuiltins z := ⟨mb, hmb.keeps I1.bk, hmv⟩
    have hgl : s1.heap.Ns mainGlobals X.mg := I1.mod.glob.keeps I1.bk
    obtain ⟨hp, g, dr, tk, os⟩ := s1
    refine wpAny_call (PySem.SupX.sup_made T I1.kIn hlim hgl hbl (by have := hr.dp; omega) fun h' tk' e d M => ?_)
    show MkP X pins σ Q (.ref e) ⟨h', g, dr, tk', os⟩
    obtain ⟨oe, fv, hoe, hc, hd, hdat, h1⟩ := M.obj
    have hns := M.ns
    obtain ⟨G', g1, g2⟩ := restrict h' fun b => decide (b ≠ e)
    have gk : ∀ b, b ≠ e → G'.get? b = h'.get? b := fun b hb => g1 b (decide_eq_true hb)
    have ge : G'.get? e = none := g2 e (by simp)
    have old : ∀ b o, hp.get? b = some o → G'.get? b = some o := fun b o q => (gk b (Nat.ne_of_lt (Nat.lt_of_lt_of_le (Heap.lt_size q) M.new))).trans (M.keep b o q)
    have ob : ObjOk X.prog X.w (upd H1 d (.xd [(y, v)])) G' d (.xd [(y, v)]) :=
      ⟨_, hns.at (fun o q => (gk d M.dne).trans q), fun f => relO_one rv f⟩
    have J : Inv X pins σ (upd H1 d (.xd [(y, v)])) ⟨G', g, dr, tk', os⟩ := I1.laid (t' := tk') old M.dbig ob
    refine ⟨e, oe, fv, ⟨G', g, dr, tk', os⟩, _, .ref C, some d, rfl, J, fun b o q => ?_, ge, hoe, ⟨hc, hd⟩, hdat, h1, ?_, rfl, I1.bare, raises_own T.exC T.tyC, q1 d (I1.hok.fresh M.dbig)⟩
    · by_cases hb : b = e
      · have q' : G'.get? b = some o := q
        rw [hb, ge] at q'; cases q'
      · exact (gk b hb).symm.trans q
    · rw [upd_ne (Ne.symm M.dne)]
      exact I1.hok.fresh M.new
/-- raise X(e) -/
def tRaiseS (C : Addr) (y : Str) (W : WX) (ta : TA) : TS := fun _ σ H => tMkS C y ta σ H fun cls d H' => W cls d σ H'
theorem ps_raiseS {a : Expr} {ta : TA} {W : WX} {p pos pos2 : Pos} {k : Nat} (hc : X.calm = true) (tk : Takes X W) (T : ExcF X.prog X.K X.mg x y C) (hr : Room k X.A) (hg : Gl X x) (ha : PA X [a] ta) (hdb : (x == ("__debug__" : Str)) = false := by decide)
    (he : starEach (a :: []) X.env = (false, eval a X.env) :: starEach [] X.env := by rfl) (hpl : (backTo pos (starEach [] X.env)).any (·.1) = false := by rfl) :
    PS X (.Raise (some (.Call (.Name x p) [a] [] pos)) none pos2) (tRaiseS C y W ta) := ps_raise hc tk (pmk_sup T hr ha hg hdb he hpl)
/-- the exceptions that a read of the field y fits: its class told of the written part -/
structure ExcG (K : PySem.W.Frag) (C : Addr) (y : Str) : Prop where
  ga : PySem.W.findIn K (.ref C) "__getattribute__" = some (some (.builtin "BaseException.__getattribute__"))
  gg : PySem.W.findIn K (.ref C) "__getattr__" = some none
  exC : PySem.W.subIn K (.ref C) (.type "BaseException") = some true
  hdC : PySem.W.hasDictIn K C = true
  noN : PySem.W.findIn K (.ref C) y = some none
/-- e.y, e the exception that the suite holds (at a; its class cls, its dict d) -/
def tByS (K : PySem.W.Frag) (y : Str) (a : Addr) (cls : Value) (d : Option Addr) (te : TE) : TE := fun σ H Q => te σ H fun x H1 => x = .ref a ∧ ∃ (C dd : Addr) (v : V), cls = .ref C ∧ ExcG K C y ∧ d = some dd ∧ H1 dd = some (.xd [(y, v)]) ∧ Q v H1
theorem pe_byS {a : Addr} {oe : Obj} {cls : Value} {d : Option Addr} {pn : List (Addr × Obj)} {e : Expr} {te : TE} {pos : Pos} (hz : Zc cls d oe) (hf : ∃ vs, oe.data = .fields vs) (he : PE (X.suite a ((a, oe) :: pn)) e te)
    (hb : attributeBase e y X.env (eval e X.env) = eval e X.env := by rfl) :
    PE (X.suite a ((a, oe) :: pn)) (.Attribute e y pos) (tByS X.K y a cls d te) := by
  refine ⟨fun pins s σ H Q I h => ?_⟩
  refine attr_of hb (thn (he.run pins s σ H _ I h) fun u s1 hh => ?_)
  obtain ⟨x, H1, I1, rx, ex, C, dd, v, ec, T, ed, ea, q⟩ := hh
  subst ex
  obtain rfl : u = Value.ref a := rx
  subst ec
  subst ed
  obtain ⟨ha, _⟩ := I1.pin (a, oe) (List.mem_append_left _ List.mem_cons_self)
  obtain ⟨vs, hd⟩ := hf
  have hx : ObjOk X.prog X.w H1 s1.heap dd (.xd [(y, v)]) := I1.hok dd _ ea
  obtain ⟨mA, hns, hr⟩ := hx
  obtain ⟨od, ho, hl⟩ := lookIn_ns hns
  have l : List.lookup y [(y, v)] = some v := by simp [List.lookup]
  obtain ⟨u, hu, ru⟩ := RelO.some_of (v := v) (o := mA y) (by rw [← l]; exact hr y)
  have J : PySem.W.InstAt s1.heap a oe C (some od) := ⟨ha, hz.1, by unfold PySem.W.notCls; rw [hd] <;> rfl, by rw [hz.2]; exact ho⟩
  exact HandSPX.exc_get I1.kIn J T.ga T.gg T.exC (PySem.W.findObj_own T.hdC T.noN rfl (by rw [hl, hu])) (handed_of ru) ⟨v, H1, I1.tok _, ru, q⟩
end
section
variable {σ : L2.St} {H : Hp} {W : WX} {D : Ends} {C : Addr} {y : Str} {K : PySem.W.Frag}
/-- raised -/
theorem x_raiseS {ta : TA} (q : ta σ H fun vs H1 => ∃ v, vs = [v] ∧ ∀ d, H1 d = none → W (.ref C) (some d) σ (upd H1 d (.xd [(y, v)]))) : tRaiseS C y W ta D σ H := q
end
end Ox

/-! Own layer: several except clauses, each with a name or without; == of sequences by place or by data. -/
namespace Ox
open PySem PySem.Spec PyProof.Rows L2
/-- a clause: its class, the slot of its name (if it has one), its suite's reading -/
structure Cl where
  c : Value
  nm : Option Nat
  ts : Addr → Value → Option Addr → TS
/-- what a clause that fits wishes -/
def Cl.hit (k : Cl) (D : Ends) : WX := fun cls d σ H => ∀ a, H a = none → match k.nm with
  | some i => k.ts a cls d (sEnds i D) (σ.set i (some (.ref a))) H
  | none => k.ts a cls d D σ H
/-- .. and one clause behind the other -/
def wCls (K : PySem.W.Frag) (Wout : WX) (D : Ends) : List Cl → WX
  | [] => Wout
  | k :: r => fun cls d σ H => ∃ b, PySem.W.exmOne K cls k.c = some b ∧ (b = true → k.hit D cls d σ H) ∧ (b = false → wCls K Wout D r cls d σ H)
/-- the clauses' text -/
inductive ClsOk (X : Cx) : List ExceptHandler → List Cl → Prop
  | nil : ClsOk X [] []
  | named {x n : Str} {c : Value} {i : Nat} {ts : Addr → Value → Option Addr → TS} {b₀ : Stmt} {suite : List Stmt} {np p : Pos} {hds : List ExceptHandler} {l : List Cl} (hi : X.N[i]? = some n) (hn : X.env.kindOf n = some .local) (hc : Names X x c)
      (hsu : ∀ (a : Addr) (oe : Obj) (cls : Value) (d : Option Addr) (pn : List (Addr × Obj)), Zc cls d oe → (∃ vs, oe.data = .fields vs) → X.base.get? a = none → PSs (X.suite a ((a, oe) :: pn)) (b₀ :: suite) (ts a cls d)) (r : ClsOk X hds l) :
      ClsOk X (.ExceptHandler (some (.Name x np)) (some n) (b₀ :: suite) p :: hds) (⟨c, some i, ts⟩ :: l)
  | bare {x : Str} {c : Value} {ts : Addr → Value → Option Addr → TS} {b₀ : Stmt} {suite : List Stmt} {np p : Pos} {hds : List ExceptHandler} {l : List Cl} (hc : Names X x c)
      (hsu : ∀ (a : Addr) (oe : Obj) (cls : Value) (d : Option Addr) (pn : List (Addr × Obj)), Zc cls d oe → (∃ vs, oe.data = .fields vs) → X.base.get? a = none → PSs (X.suite a ((a, oe) :: pn)) (b₀ :: suite) (ts a cls d)) (r : ClsOk X hds l) :
      ClsOk X (.ExceptHandler (some (.Name x np)) none (b₀ :: suite) p :: hds) (⟨c, none, ts⟩ :: l)
section
variable {X : Cx}
/-- the reading of a suite's end goes over to what stands behind it -/
theorem sp_named {pins : List (Addr × Obj)} {a : Addr} {oe : Obj} {pn : List (Addr × Obj)} {i : Nat} {n : Str} {D : Ends} {pos : Pos} {f : Flow} {s : Shared} (ok : X.Ok) (hN : X.N.Nodup) (hi : X.N[i]? = some n) (hn : X.env.kindOf n = some .local)
    (h : SP (X.suite a ((a, oe) :: (X.pn ++ pins))) [] (sEnds i D) f s) :
    wpAny (model X.prog X.w) X.A (do bindName X.env n .none; unbindBehindTheSuite X.env n pos) (fun _ s' => SP X pins D f s') X.xe s := by
  cases f with
  | ret u =>
    obtain ⟨v, σ1, H1, S, r, q⟩ := h
    exact gone_ok (S.unsuite ok) hN hi hn fun s' J => ⟨v, _, _, J, r, q⟩
  | next =>
    obtain ⟨σ1, H1, S, q⟩ := h
    exact gone_ok (S.unsuite ok) hN hi hn fun s' J => ⟨_, _, J, q⟩
  | brk =>
    obtain ⟨σ1, H1, S, q⟩ := h
    exact gone_ok (S.unsuite ok) hN hi hn fun s' J => ⟨_, _, J, q⟩
  | cont =>
    obtain ⟨σ1, H1, S, q⟩ := h
    exact gone_ok (S.unsuite ok) hN hi hn fun s' J => ⟨_, _, J, q⟩
theorem sp_bare {pins : List (Addr × Obj)} {a : Addr} {oe : Obj} {pn : List (Addr × Obj)} {D : Ends} {f : Flow} {s : Shared} (ok : X.Ok) (h : SP (X.suite a ((a, oe) :: (X.pn ++ pins))) [] D f s) : SP X pins D f s := by
  cases f with
  | ret u =>
    obtain ⟨v, σ1, H1, S, r, q⟩ := h
    exact ⟨v, _, _, S.unsuite ok, r, q⟩
  | next =>
    obtain ⟨σ1, H1, S, q⟩ := h
    exact ⟨_, _, S.unsuite ok, q⟩
  | brk =>
    obtain ⟨σ1, H1, S, q⟩ := h
    exact ⟨_, _, S.unsuite ok, q⟩
  | cont =>
    obtain ⟨σ1, H1, S, q⟩ := h
    exact ⟨_, _, S.unsuite ok, q⟩
/-- behind a body that let nothing out -/
theorem sp_body {pins : List (Addr × Obj)} {xe : Value → Shared → Prop} {D : Ends} {f : Flow} {s : Shared} (ok : X.Ok) (h : SP (X.tr (X.pn ++ pins) xe) [] D f s) :
    match f with | .next => wpAny (model X.prog X.w) X.A (execs [] X.env) (SP X pins D) X.xe s | f => SP X pins D f s := by
  cases f with
  | ret u =>
    obtain ⟨v, σ1, H1, S, r, q⟩ := h
    exact ⟨v, _, _, S.ofTry ok, r, q⟩
  | next =>
    obtain ⟨σ1, H1, S, q⟩ := h
    exact wpAny_execs_nil ⟨_, _, S.ofTry ok, q⟩
  | brk =>
    obtain ⟨σ1, H1, S, q⟩ := h
    exact ⟨_, _, S.ofTry ok, q⟩
  | cont =>
    obtain ⟨σ1, H1, S, q⟩ := h
    exact ⟨_, _, S.ofTry ok, q⟩
/-- a caught exception goes through the clauses -/
theorem cls_go {pins : List (Addr × Obj)} {σ : L2.St} {H : Hp} {D : Ends} {Wout : WX} {cls : Value} {d : Option Addr} {a : Addr} {B : Heap} {sI s : Shared} (hst : X.stack = X.env :: X.outer) (hf : X.env.frame = some X.env.locals) (hN : X.N.Nodup) (tk : Takes X Wout)
    (J : Inv X pins σ H sI) (nb : ∀ b o, sI.heap.get? b = some o → b ∉ frs X.stack → B.get? b = some o) (up : sI.heap.UpToSlots s.heap) (fl : HandSPX.FlyingZ B X.stack a (Zc cls d) s.heap) (na : H a = none) (os : s.os = sI.os) (ag : AllBare s.gens) :
    ∀ {hds : List ExceptHandler} {l : List Cl}, ClsOk X hds l → wCls X.K Wout D l cls d σ H → wpAny (model X.prog X.w) X.A (handleBy (.ref a) X.env hds) (SP X pins D) X.xe s := by
  have ok := J.ok
  obtain ⟨hh, g, dr, tk', o'⟩ := s
  -- the place is neither a frame nor tracked
  have far : ∀ {h : Heap} {o : Obj} {vs : Array Value}, h.FunFrames B X.stack → h.get? a = some o → o.data = .fields vs → a ≠ X.env.locals ∧ a ∉ X.fs := by
    intro h o vs ff e dd
    have hm : a ∉ frs X.stack := by
      intro z
      obtain ⟨_, o2, e2, n2⟩ := ff.mem z
      rw [e] at e2
      cases e2
      exact n2 _ dd
    have em : frs X.stack = X.env.locals :: X.fs := by
      rw [hst]
      show List.filterMap _ (X.env :: X.outer) = _
      rw [List.filterMap_cons, hf]
      rfl
    rw [em] at hm
    exact ⟨fun z => hm (by rw [z]; exact List.mem_cons_self ..), fun z => hm (List.mem_cons_of_mem _ z)⟩
  have into : ∀ {h : Heap}, HandSPX.FlyingZ B X.stack a (Zc cls d) h → sI.heap.UpToSlots h → ∃ oe, Zc cls d oe ∧ (∃ vs, oe.data = .fields vs) ∧ h.get? a = some oe ∧ Inv (X.suite a ((a, oe) :: (X.pn ++ pins))) [] σ H ⟨h, g, dr, tk', o'⟩ := by
    intro h f u
    obtain ⟨oe, vs, he, hz, hd⟩ := f.there
    obtain ⟨n1, n2⟩ := far f.2.2.1 he hd
    have J1 : Inv X pins σ H ⟨h, g, dr, tk', o'⟩ := J.landed nb f.1 u os ag
    exact ⟨oe, hz, ⟨vs, hd⟩, he, J1.suite he hd na n1 n2⟩
  -- .. nor of the base
  have hnb : X.base.get? a = none := by
    cases e : X.base.get? a with
    | none => rfl
    | some o =>
      obtain ⟨oe, vs, he, hz, hd⟩ := fl.there
      have hm : a ∉ frs X.stack := by
        intro z
        obtain ⟨_, o2, e2, n2⟩ := fl.2.2.1.mem z
        rw [he] at e2
        cases e2
        exact n2 _ hd
      have z := nb a o (J.bk a o e) hm
      rw [fl.2.1] at z
      cases z
  obtain ⟨oe, hz, hdt, he, S⟩ := into fl up
  have LT : PySem.W.Looks (model X.prog X.w) hh (typeOf (.ref a)) cls := fun A Q E s k q => wpAny_typeOf_ref (k _ _ he) (by rw [hz.1]; exact q)
  have KI : X.K.In hh := S.kIn
  have test : ∀ {x : Str} {c : Value} {np : Pos} {b : Bool} {Q : Value → Shared → Prop} {E : Value → Shared → Prop}, Names X x c → Q c ⟨hh, g, dr, tk', o'⟩ →
      wpAny (model X.prog X.w) (X.A.mark (some (.ref a))) (eval (.Name x np) X.env) Q E ⟨hh, g, dr, tk', o'⟩ := by
    intro x c np b Q E hc q
    obtain ⟨hg, hdb, hm | ⟨hm, hv, hnn⟩⟩ := hc
    · exact ld_glob (X := X.suite a ((a, oe) :: (X.pn ++ pins))) S hg hm q hdb
    · exact ld_blt (X := X.suite a ((a, oe) :: (X.pn ++ pins))) S hg hm hv q hnn hdb
  intro hds l hk
  induction hk with
  | nil =>
    intro w
    refine wpAny_handleBy_nil ?_
    have fl0 := fl
    obtain ⟨_, _, _, oe1, vs1, T, _, _, he1, _, hd1, h1, _⟩ := fl0
    have out : wpAny (model X.prog X.w) X.A (setFlight (.ref a) X.env.frame) (fun _ s4 => wpAny (model X.prog X.w) X.A (throw (.ref a) : Sem Flow) (SP X pins D) X.xe s4) X.xe ⟨hh, g, dr, tk', o'⟩ := by
      rw [hf]
      refine HandSPX.setFlight_upZ fl fun h4 held up4 => wpAny_throw (tk _ _ ?_)
      exact ⟨a, B, sI, pins, σ, H, cls, d, rfl, J, nb, up.trans up4, .inr (.inr held), na, os, ag, w⟩
    unfold PySem.passOn
    refine wpAny_bind (wpAny_field he1 hd1 h1 ?_)
    rw [if_neg (by simp)]
    first
      | exact wpAny_bind (wpAny_pure (wpAny_bind out))
      | exact wpAny_bind out
  | @named x n c i ts b₀ suite np p hds l hi hn hc hsu r ih =>
    intro w
    obtain ⟨b, hb, yes, no⟩ := w
    refine wpAny_handleBy_cons (codeAny_handlers_test ?_) (by intro q; cases q)
    refine test (b := b) hc ((PySem.W.exm_one (M := model X.prog X.w) KI LT hb).here ?_)
    cases b with
    | false => exact ih (no rfl)
    | true =>
      refine codeAny_handlers_suite_as (HandSPX.lands_againZ fl fun h4 fl4 up4 => ?_)
      obtain ⟨oe4, hz4, hd4, _, S4⟩ := into fl4 (up.trans up4)
      refine store_ok (X := X.suite a ((a, oe4) :: (X.pn ++ pins))) (v := .ref a) S4 hN hi (.inl hn) rfl (fun s5 S5 => ?_) (.inr hn)
      exact wpAny_mono ((hsu a oe4 cls d (X.pn ++ pins) hz4 hd4 hnb).run [] s5 _ H _ S5 (yes rfl a na)) (fun f s6 h6 => sp_named (pn := X.pn ++ pins) ok hN hi hn h6) fun _ _ z => False.elim z
  | @bare x c ts b₀ suite np p hds l hc hsu r ih =>
    intro w
    obtain ⟨b, hb, yes, no⟩ := w
    refine wpAny_handleBy_cons (codeAny_handlers_test ?_) (by intro q; cases q)
    refine test (b := b) hc ((PySem.W.exm_one (M := model X.prog X.w) KI LT hb).here ?_)
    cases b with
    | false => exact ih (no rfl)
    | true =>
      refine codeAny_handlers_suite (HandSPX.lands_againZ fl fun h4 fl4 up4 => ?_)
      obtain ⟨oe4, hz4, hd4, _, S4⟩ := into fl4 (up.trans up4)
      exact wpAny_mono ((hsu a oe4 cls d (X.pn ++ pins) hz4 hd4 hnb).run [] _ _ H _ S4 (yes rfl a na)) (fun f s6 h6 => sp_bare (pn := X.pn ++ pins) ok h6) fun _ _ z => False.elim z
/-- its reading -/
def tTryC (K : PySem.W.Frag) (l : List Cl) (tb : WX → TS) (Wout : WX) : TS := fun D σ H => tb (wCls K Wout D l) D σ H
theorem ps_tryC {body : List Stmt} {h₀ : ExceptHandler} {hds : List ExceptHandler} {l : List Cl} {pos : Pos} {tb : WX → TS} {Wout : WX} (hN : X.N.Nodup) (hs : X.stack = X.env :: X.outer) (hf : X.env.frame = some X.env.locals) (tk : Takes X Wout)
    (hb : ∀ (W : WX) (pn : List (Addr × Obj)) (xe : Value → Shared → Prop), Takes (X.tr pn xe) W → PassesOwn (model X.prog X.w) X.A X.env xe → PSs (X.tr pn xe) body (tb W))
    (hh : ClsOk X (h₀ :: hds) l) : PS X (.Try body (h₀ :: hds) [] [] pos) (tTryC X.K l tb Wout) := by
  refine ⟨fun pins s σ H D I h => ?_⟩
  have ok := I.ok
  refine wpAny_Try_except ?_
  refine wpAny_mono ((hb (wCls X.K Wout D l) (X.pn ++ pins) (fun e s₁ => wpAny (model X.prog X.w) X.A (noteFrame e X.env) (fun _ s₂ => wpAny (model X.prog X.w) X.A (setFlight e none) (fun _ s₃ =>
    wpAny (model X.prog X.w) X.A (handleBy e X.env (h₀ :: hds)) (SP X pins D) X.xe s₃) X.xe s₂) X.xe s₁) (fun u s' air => ?_) PassesOwn.looking).run [] s σ H D (I.toTry _) h) (fun f s1 z => by cases f <;> exact sp_body ok z) (fun e s1 z => z)
  obtain ⟨a, B, sI, pins', σ', H', cls, d, rfl, J', nb, up, sky, na, os, ag, w⟩ := air
  have J : Inv X pins σ' H' sI := J'.ofTry ok
  have sky' : Sky B (X.env :: X.outer) a (Zc cls d) X.env.locals s'.heap := by rw [← hs]; exact sky
  show wpAny (model X.prog X.w) X.A (noteFrame (.ref a) X.env) _ _ _
  refine Sky.land Zc.steady (by rw [ok.frames, hs]) hf sky' fun h3 fl3 up3 => ?_
  exact cls_go (s := { s' with heap := h3 }) hs hf hN tk J nb (up.trans up3) (by rw [hs]; exact fl3) na os ag hh w
end
/-! ### == and != of sequences whose items are the same things, or equal data -/
mutual
inductive Alk (K : PySem.W.Frag) (H : Hp) : Nat → V → V → Prop
  | ref {n : Nat} (a : Addr) : Alk K H n (.ref a) (.ref a)
  | str {n : Nat} (x : Str) : Alk K H n (.str x) (.str x)
  | dat {n : Nat} {x y : V} {d : PyData} : Dp K H x d → Dp K H y d → SeqAt.shaped d = true → Alk K H n x y
  | tup {n : Nat} {a b : Addr} {xs ys : List V} : SqT K H a xs → SqT K H b ys → AlkA K H n xs ys → Alk K H (n + 1) (.ref a) (.ref b)
  | lst {n : Nat} {a b : Addr} {xs ys : List V} : SqL K H a xs → SqL K H b ys → AlkA K H n xs ys → Alk K H (n + 1) (.ref a) (.ref b)
inductive AlkA (K : PySem.W.Frag) (H : Hp) : Nat → List V → List V → Prop
  | nil {n : Nat} : AlkA K H n [] []
  | cons {n : Nat} {x y : V} {xs ys : List V} : Alk K H n x y → AlkA K H n xs ys → AlkA K H n (x :: xs) (y :: ys)
end
theorem Alk.int {K : PySem.W.Frag} {H : Hp} {n : Nat} (i : Int) : Alk K H n (.int i) (.int i) := .dat (.int i) (.int i) rfl
theorem Alk.bl {K : PySem.W.Frag} {H : Hp} {n : Nat} (b : Bool) : Alk K H n (.bl b) (.bl b) := .dat (.bl b) (.bl b) rfl
theorem Alk.non {K : PySem.W.Frag} {H : Hp} {n : Nat} : Alk K H n .non .non := .dat .non .non rfl
section
variable {X : Cx} {pins : List (Addr × Obj)} {σ : L2.St} {H : Hp} {s : Shared}
theorem AlkA.len {K : PySem.W.Frag} {n : Nat} : ∀ {xs ys : List V}, AlkA K H n xs ys → xs.length = ys.length
  | _, _, .nil => rfl
  | _, _, .cons _ r => by simp [r.len]
theorem vals_size : ∀ {xs : List V} {us : List Value}, Vals xs us → us.length = xs.length
  | _, _, .nil => rfl
  | _, _, .cons _ r => by simp [vals_size r]
theorem all_true {n : Nat} : ((List.range n).all fun _ => true) = true := by simp
mutual
theorem Alk.eq (I : Inv X pins σ H s) : ∀ {n : Nat} {x y : V}, Alk X.K H n x y → ∀ {u v : Value}, RelV x u → RelV y v → ∀ A : Around, A.units + 64 + n < cLine → SeqAt.EqAt A s u v true
  | _, _, _, .ref a, u, v, ru, rv, A, hu => by
    obtain rfl : u = Value.ref a := ru
    obtain rfl : v = Value.ref a := rv
    exact SeqAt.EqAt.same _
  | _, _, _, .str x, u, v, ru, rv, A, hu => by
    obtain ⟨t1, rfl⟩ := ru
    obtain ⟨t2, rfl⟩ := rv
    have e := SeqAt.EqAt.str_str (A := A) (s := s) x t1 x t2
    rw [beq_self_eq_true] at e
    exact e
  | _, _, _, .dat (d := d) h1 h2 hs, u, v, ru, rv, A, hu => by
    obtain ⟨as, r1⟩ := Dp.reads I d _ _ h1 ru
    obtain ⟨bs, r2⟩ := Dp.reads I d _ _ h2 rv
    have cl := SeqAt.canLay_of_shaped hs
    have e := SeqAt.eqAt_reads d d A s u v as bs r1 r2 cl cl (SeqAt.room_of_shaped hs (by omega))
    rw [SeqAt.eqv_refl d cl] at e
    exact e
  | _, _, _, .tup (n := n) (a := a) (b := b) h1 h2 hs, u, v, ru, rv, A, hu => by
    obtain rfl : u = Value.ref a := ru
    obtain rfl : v = Value.ref b := rv
    obtain ⟨is, w1, t1, _⟩ := I.tuple h1
    obtain ⟨js, w2, t2, _⟩ := I.tuple h2
    by_cases hab : a = b
    · subst hab; exact SeqAt.EqAt.same _
    · intro prog w E Q hq
      refine SeqAt.EqIn.of_refs hab (fun E Q hq => ?_) E Q hq
      refine SeqAt.rcIn_tuples (e := fun _ => true) t1 t2 (by omega) (fun j j1 j2 => (AlkA.eq I hs w1 w2 A.in1 (by show A.units + 1 + 64 + n < cLine; omega) j (by simpa using j1) (by simpa using j2)).inModel prog w) ?_
      have e : is.toArray.size = js.toArray.size := by rw [List.size_toArray, List.size_toArray, vals_size w1, vals_size w2, hs.len]
      rw [all_true, e, beq_self_eq_true]
      exact hq
  | _, _, _, .lst (n := n) (a := a) (b := b) h1 h2 hs, u, v, ru, rv, A, hu => by
    obtain rfl : u = Value.ref a := ru
    obtain rfl : v = Value.ref b := rv
    obtain ⟨is, w1, t1, _⟩ := I.list h1
    obtain ⟨js, w2, t2, _⟩ := I.list h2
    by_cases hab : a = b
    · subst hab; exact SeqAt.EqAt.same _
    · intro prog w E Q hq
      refine SeqAt.EqIn.of_refs hab (fun E Q hq => ?_) E Q hq
      have e : is.toArray.size = js.toArray.size := by rw [List.size_toArray, List.size_toArray, vals_size w1, vals_size w2, hs.len]
      refine SeqAt.rcIn_lists (e := fun _ => true) t1.isList t2.isList e (by omega) (fun j j1 j2 => (AlkA.eq I hs w1 w2 A.in1 (by show A.units + 1 + 64 + n < cLine; omega) j (by simpa using j1) (by simpa using j2)).inModel prog w) ?_
      rw [all_true]
      exact hq
theorem AlkA.eq (I : Inv X pins σ H s) : ∀ {n : Nat} {xs ys : List V}, AlkA X.K H n xs ys → ∀ {us vs : List Value}, Vals xs us → Vals ys vs → ∀ A : Around, A.units + 64 + n < cLine → ∀ j (j1 : j < us.length) (j2 : j < vs.length), SeqAt.EqAt A s us[j] vs[j] true
  | _, _, _, .nil, _, _, .nil, .nil, A, hu, j, j1, j2 => by simp at j1
  | _, _, _, .cons h t, _, _, .cons r1 w1, .cons r2 w2, A, hu, 0, j1, j2 => Alk.eq I h r1 r2 A hu
  | _, _, _, .cons h t, _, _, .cons r1 w1, .cons r2 w2, A, hu, j + 1, j1, j2 => AlkA.eq I t w1 w2 A hu j (by simpa using j1) (by simpa using j2)
end
/-- both are tuples, or both lists -/
def SqAlk (K : PySem.W.Frag) (H : Hp) (x y : V) : Prop := ∃ (a b : Addr) (xs ys : List V) (n : Nat), x = .ref a ∧ y = .ref b ∧ n ≤ 30 ∧ AlkA K H n xs ys ∧ ((SqT K H a xs ∧ SqT K H b ys) ∨ (SqL K H a xs ∧ SqL K H b ys))
def rEqA (K : PySem.W.Frag) : R2 := fun x y H Q => SqAlk K H x y ∧ Q (.bl true) H
def rNeA (K : PySem.W.Frag) : R2 := fun x y H Q => SqAlk K H x y ∧ Q (.bl false) H
theorem op_eqA (hu : X.A.units + 100 < cLine) : OpR X (compareOp .Eq) (rEqA X.K) := by
  intro pins s σ H x y v u Q I rx ry h
  obtain ⟨⟨a, b, xs, ys, n, rfl, rfl, hn, al, hs⟩, q⟩ := h
  obtain rfl : v = Value.ref a := rx
  obtain rfl : u = Value.ref b := ry
  show wpAny _ _ (richCompare .Eq (.ref a) (.ref b)) _ _ _
  rcases hs with ⟨h1, h2⟩ | ⟨h1, h2⟩
  · obtain ⟨is, w1, t1, _⟩ := I.tuple h1
    obtain ⟨js, w2, t2, _⟩ := I.tuple h2
    have e : is.toArray.size = js.toArray.size := by rw [List.size_toArray, List.size_toArray, vals_size w1, vals_size w2, al.len]
    refine SeqAt.rcIn_tuples (e := fun _ => true) t1 t2 (by omega) (fun j j1 j2 => (AlkA.eq I al w1 w2 X.A.in1 (by show X.A.units + 1 + 64 + n < cLine; omega) j (by simpa using j1) (by simpa using j2)).inModel _ _) ?_
    rw [all_true, e, beq_self_eq_true]
    exact ⟨.bl true, H, I, rfl, q⟩
  · obtain ⟨is, w1, t1, _⟩ := I.list h1
    obtain ⟨js, w2, t2, _⟩ := I.list h2
    have e : is.toArray.size = js.toArray.size := by rw [List.size_toArray, List.size_toArray, vals_size w1, vals_size w2, al.len]
    refine SeqAt.rcIn_lists (e := fun _ => true) t1.isList t2.isList e (by omega) (fun j j1 j2 => (AlkA.eq I al w1 w2 X.A.in1 (by show X.A.units + 1 + 64 + n < cLine; omega) j (by simpa using j1) (by simpa using j2)).inModel _ _) ?_
    rw [all_true]
    exact ⟨.bl true, H, I, rfl, q⟩
theorem op_neA (hu : X.A.units + 100 < cLine) : OpR X (compareOp .NotEq) (rNeA X.K) := by
  intro pins s σ H x y v u Q I rx ry h
  obtain ⟨⟨a, b, xs, ys, n, rfl, rfl, hn, al, hs⟩, q⟩ := h
  obtain rfl : v = Value.ref a := rx
  obtain rfl : u = Value.ref b := ry
  show wpAny _ _ (richCompare .NotEq (.ref a) (.ref b)) _ _ _
  rcases hs with ⟨h1, h2⟩ | ⟨h1, h2⟩
  · obtain ⟨is, w1, t1, _⟩ := I.tuple h1
    obtain ⟨js, w2, t2, _⟩ := I.tuple h2
    have e : is.toArray.size = js.toArray.size := by rw [List.size_toArray, List.size_toArray, vals_size w1, vals_size w2, al.len]
    refine SeqAt.RcNeAt.tuples (e := fun _ => true) t1 t2 (by omega) (fun j j1 j2 => AlkA.eq I al w1 w2 X.A.in1 (by show X.A.units + 1 + 64 + n < cLine; omega) j (by simpa using j1) (by simpa using j2)) _ _ _ _ ?_
    rw [all_true, e, beq_self_eq_true]
    exact ⟨.bl false, H, I, rfl, q⟩
  · obtain ⟨is, w1, t1, _⟩ := I.list h1
    obtain ⟨js, w2, t2, _⟩ := I.list h2
    have e : is.toArray.size = js.toArray.size := by rw [List.size_toArray, List.size_toArray, vals_size w1, vals_size w2, al.len]
    refine SeqAt.RcNeAt.lists (e := fun _ => true) t1.isList t2.isList e (by omega) (fun j j1 j2 => AlkA.eq I al w1 w2 X.A.in1 (by show X.A.units + 1 + 64 + n < cLine; omega) j (by simpa using j1) (by simpa using j2)) _ _ _ _ ?_
    rw [all_true]
    exact ⟨.bl false, H, I, rfl, q⟩
end
/-! ### methods that may raise -/
def tMethX (C : Addr) (m : Str) (sp : Sp) (E : L2.St → XK) (ta : TE) (t : TA) : TE := fun σ H Q => ta σ H fun x H1 => ∃ a dx fs, x = .ref a ∧ H1 a = some (.ins C dx fs) ∧ fs.lookup m = none ∧ t σ H1 fun vs H2 => sp (x :: vs) H2 Q (E σ)
section
variable {X : Cx} {k : Nat} {C : Addr} {m : Str} {ps : List Str} {sp : Sp} {o e : Expr} {es : List Expr} {ta : TE} {t : TA} {apos pos : Pos} {pl : Sem Bool} {W : WX}
theorem pe_mtX (M : MetX X.prog X.w X.K X.mg X.base C k m ps sp) (kc : Cls X.K C) (hr : Room k X.A) (tk : Takes X W) (he : PE X o ta) (ha : PA X (e :: es) t)
    (hst : starEach (e :: es) X.env = (false, eval e X.env) :: starEach es X.env := by rfl) (hpl : (backTo pos (starEach es X.env)).any (·.1) = false := by rfl)
    (ht : eval (.Call (.Attribute o m apos) (e :: es) [] pos) X.env = (do let ov ← eval o X.env; standAt apos.atName; let (f, first) ← holding [ov] (getMethod ov m pl); callWith pos f first (backTo pos (starEach (e :: es) X.env)) (backToKw pos (keywordEach [] X.env))) := by rfl) :
    PE X (.Call (.Attribute o m apos) (e :: es) [] pos) (tMethX C m sp (WE W) ta t) := by
  obtain ⟨f, fd, mt, F, hb⟩ := M.ex
  refine ⟨fun pins s σ H Q I h => PySem.W.methodCall_KW (pl := pl) (thn (he.run pins s σ H _ I h) ?_) ht⟩
  rintro u s1 ⟨_, H1, I1, rx, a, dx, fs, rfl, ea, l, q⟩
  cases (show u = Value.ref a from rx)
  refine getmeth_ok I1 ea kc mt l (PySem.W.callWith_K (first := [.ref a]) (h₀ := X.base) I.ok.mod.kin mt.kp (thn (ha.run pos pins s1 σ H1 _ I1 q) ?_) hst hpl)
  rintro us s2 ⟨vs, H2, I2, r, q2⟩
  exact ⟨I2.kIn, run_fnS (us := .ref a :: us) (vs := .ref a :: vs) F hr hb (passAt tk σ) I2 (.cons rfl r) q2⟩
end
section
variable {σ : L2.St} {H : Hp} {Q : VK} {D : Ends} {ta : TE} {al : TA} {C : Addr} {m : Str} {sp : Sp} {E : L2.St → XK} {K : PySem.W.Frag} {W Wout : WX} {cls : Value} {d : Option Addr} {k : Cl} {r : List Cl} {tb : WX → TS} {l : List Cl}
theorem x_mtX (h : ta σ H fun x H1 => rMtA C m x H1 (al σ H1 fun vs H2 => sp (x :: vs) H2 Q (E σ))) : tMethX C m sp E ta al σ H Q := h
theorem x_tryC (q : tb (wCls K Wout D l) D σ H) : tTryC K l tb Wout D σ H := q
theorem x_hit (e : PySem.W.exmOne K cls k.c = some true) (q : k.hit D cls d σ H) : wCls K Wout D (k :: r) cls d σ H := ⟨true, e, fun _ => q, fun z => nomatch z⟩
theorem x_miss (e : PySem.W.exmOne K cls k.c = some false) (q : wCls K Wout D r cls d σ H) : wCls K Wout D (k :: r) cls d σ H := ⟨false, e, (fun z => nomatch z), fun _ => q⟩
theorem x_hitN {c : Value} {i : Nat} {ts : Addr → Value → Option Addr → TS} (e : PySem.W.exmOne K cls c = some true) (q : ∀ a, H a = none → ts a cls d (sEnds i D) (σ.set i (some (.ref a))) H) : WE (wCls K Wout D (⟨c, some i, ts⟩ :: r)) σ cls d H := x_hit e q
theorem x_hitB {c : Value} {ts : Addr → Value → Option Addr → TS} (e : PySem.W.exmOne K cls c = some true) (q : ∀ a, H a = none → ts a cls d D σ H) : WE (wCls K Wout D (⟨c, none, ts⟩ :: r)) σ cls d H := x_hit e q
theorem x_missE (e : PySem.W.exmOne K cls k.c = some false) (q : WE (wCls K Wout D r) σ cls d H) : WE (wCls K Wout D (k :: r)) σ cls d H := x_miss e q
theorem x_byV {y : Str} {a : Addr} {dd : Addr} {v : V} {i : Nat} {C : Addr} (G : ExcG K C y) (hv : σ[i]? = some (some (.ref a))) (hd : H dd = some (.xd [(y, v)])) (q : Q v H) : tByS K y a (.ref C) (some dd) (tVar i) σ H Q :=
  ⟨.ref a, hv, rfl, C, dd, v, rfl, G, rfl, hd, q⟩
theorem hu100 {k : Nat} {A : Around} (r : Room k A) : A.units + 100 < cLine := by have := r.un; omega
end
end Ox

/-! Own layer: a caught exception handed to a def; isinstance of it there. -/
namespace Ox
open PySem PySem.Spec PyProof.Rows L2
/-- at a: an exception of the class cls, its dict at d -/
def EcO (cls : Value) (d : Option Addr) (a : Addr) : HO := .ext fun h => ∃ (oe : Obj) (vs : Array Value), h.get? a = some oe ∧ Zc cls d oe ∧ oe.data = .fields vs
/-- .. and it stands as it is -/
def IsEc (H : Hp) (a : Addr) (cls : Value) (d : Option Addr) : Prop := ∃ oe, H a = some (.frz oe (EcO cls d a))
theorem IsEc.same {H H' : Hp} {a : Addr} {cls : Value} {d : Option Addr} (s : L2.Same H H') (h : IsEc H a cls d) : IsEc H' a cls d := by
  obtain ⟨oe, e⟩ := h
  exact ⟨oe, s _ _ e⟩
theorem delH_sameN {H H' : Hp} {a : Addr} {o : HO} (hn : H a = none) (s : L2.Same (upd H a o) H') : L2.Same H (delH H' a) := fun b u e => by
  have n : b ≠ a := ne_of_none e hn
  rw [delH_ne n]
  exact s b u (by rw [upd_ne n]; exact e)
/-- f(e), e the caught exception -/
def tCallE (sp : Sp) (cls : Value) (d : Option Addr) (a : Addr) (te : TE) : TE := fun σ H Q => te σ H fun x H1 => x = .ref a ∧ (H1 a = none → ∀ oe, sp [.ref a] (upd H1 a (.frz oe (EcO cls d a))) (fun v H2 => Q v (delH H2 a)) E0)
theorem pe_calE {X : Cx} {k : Nat} {x p0 : Str} {sp : Sp} {e : Expr} {te : TE} {p pos : Pos} {a : Addr} {oe : Obj} {cls : Value} {d : Option Addr} {pn : List (Addr × Obj)} (c : Cal X.prog X.w X.K X.mg X.base k x [p0] sp) (hr : Room k (X.suite a ((a, oe) :: pn)).A) (hg : Gl (X.suite a ((a, oe) :: pn)) x)
    (hz : Zc cls d oe) (hf : ∃ vs, oe.data = .fields vs) (hnb : X.base.get? a = none) (he : PE (X.suite a ((a, oe) :: pn)) e te)
    (hs : starEach [e] (X.suite a ((a, oe) :: pn)).env = (false, eval e (X.suite a ((a, oe) :: pn)).env) :: starEach [] (X.suite a ((a, oe) :: pn)).env := by rfl) (hdb : (x == ("__debug__" : Str)) = false := by decide) :
    PE (X.suite a ((a, oe) :: pn)) (.Call (.Name x p) [e] [] pos) (tCallE sp cls d a te) := by
  obtain ⟨f, fd, F, g, kp, bn⟩ := c.ex
  obtain ⟨vs, hv⟩ := hf
  refine ⟨fun pins s σ H Q I h => ?_⟩
  refine wpAny_Call_Name_kw (ld_glob I hg g ?_ hdb)
  refine PySem.W.callWith_K (h₀ := X.base) I.ok.mod.kin kp ?_ hs (by rfl)
  rw [hs]
  show wpAny _ _ (spliced ((false, eval e (X.suite a ((a, oe) :: pn)).env) :: backTo pos (starEach [] (X.suite a ((a, oe) :: pn)).env))) _ _ s
  refine Calls.spliced_cons (thn (he.run pins s σ H _ I h) fun u s1 hh => ?_)
  obtain ⟨v, H1, I1, r1, ev, q1⟩ := hh
  refine Calls.spliced_nil ⟨I1.kIn, ?_⟩
  subst ev
  obtain rfl : u = Value.ref a := r1
  obtain ⟨hget, hna, hnl, hnf, _⟩ := I1.pin (a, oe) (List.mem_append.mpr (.inl List.mem_cons_self))
  have hfz : ObjOk X.prog X.w (upd H1 a (.frz oe (EcO cls d a))) s1.heap a (.frz oe (EcO cls d a)) := ⟨hget, ⟨oe, vs, hget, hz, hv⟩, ⟨oe, hget⟩, fun _ _ ⟨o, v, q, r⟩ k => ⟨o, v, k o q, r⟩⟩
  have hok : HOk X.prog X.w (upd H1 a (.frz oe (EcO cls d a))) s1.heap := HOk.laidN I1.hok (fun _ _ z => z) hna hfz
  have env := I1.env0
  have env' : Env0 X.prog X.w X.K X.mg X.base (X.suite a ((a, oe) :: pn)).A (X.suite a ((a, oe) :: pn)).stack s1 (upd H1 a (.frz oe (EcO cls d a))) :=
    ⟨env.frames, env.mod, fun b o z => ⟨(env.bs b o z).1, by rw [upd_ne (fun q => by rw [q] at z; rw [hnb] at z; cases z)]; exact (env.bs b o z).2⟩, env.bsz, env.funs, fun b hb => by
      have n : b ≠ a := fun q => by
        rcases List.mem_cons.mp (I1.stkSub b hb) with z | z
        · exact hnl (by rw [← q]; exact z)
        · exact hnf (by rw [← q]; exact z)
      rw [upd_ne n]
      exact env.frf b hb, hok, env.bare⟩
  refine wpAny_call (codeAny_mono (F.run _ _ s1 _ ⟨[.ref a], []⟩ [.ref a] [.ref a] _ E0 hr env' (by have := bn s1 [.ref a] I1.kIn rfl; exact this) (.cons rfl .nil) (q1 hna oe)) fun r s' hq => ?_)
  cases r with
  | error e => exact (show False from hq).elim
  | ok fl =>
    cases fl with
    | next => exact (show False from hq).elim
    | brk => exact (show False from hq).elim
    | cont => exact (show False from hq).elim
    | ret u =>
      obtain ⟨v, H', os, bare, un, hok', r, q⟩ := hq
      have hfr := un.frzs a oe _ upd_same
      have hget' : s'.heap.get? a = some oe := (hok' a _ hfr).1
      have nU : ∀ {b : Addr} {o : HO}, H1 b = some o → b ≠ a := fun e => ne_of_none e hna
      refine ⟨v, delH H' a, I1.call' (ch := []) os ⟨fun b o e n hb hx => ?_, fun b o e n hb hx => ?_, fun b o e n hx => ?_, fun b o e hx => un.there b o e hx, fun b xs e => ?_, fun b o u e => ?_, fun b ps e => ?_⟩ (fun b u e => ?_) bare (fun b z => nomatch z), r, q⟩
      · by_cases z : b = a
        · subst z
          rw [hget] at e
          rw [hget', e]
        · exact un.keep b o e (by rw [upd_ne z]; exact n) hb hx
      · by_cases z : b = a
        · subst z
          rw [hget] at e
          cases e
          exact ⟨_, hget'⟩
        · exact un.slot b o e (by rw [upd_ne z]; exact n) hb hx
      · by_cases z : b = a
        · rw [z]; exact delH_same
        · rw [delH_ne z]
          exact un.free b o e (by rw [upd_ne z]; exact n) hx
      · rw [delH_ne (nU e)]
        exact un.tups b xs (by rw [upd_ne (nU e)]; exact e)
      · rw [delH_ne (nU e)]
        exact un.frzs b o u (by rw [upd_ne (nU e)]; exact e)
      · obtain ⟨m, z⟩ := un.tbls b ps (by rw [upd_ne (nU e)]; exact e)
        exact ⟨m, by rw [delH_ne (nU e)]; exact z⟩
      · have hb : b ≠ a := fun z => by
          rw [z, delH_same] at e
          cases e
        rw [delH_ne hb] at e
        refine (hok' b u e).stay (fun c v _ z => z) (fun c z => ?_) fun c xs z => ?_
        · rw [delH_ne (fun y => by rw [y, hfr] at z; cases z)]
          exact z
        · rw [delH_ne (fun y => by rw [y, hfr] at z; cases z)]
          exact z
/-- isinstance(e, C), e handed in -/
def rIsV (K : PySem.W.Frag) : List V → Hp → VK → Prop := fun xs H Q => ∃ (a D : Addr) (d : Option Addr) (c : V) (cv : Value) (b : Bool), xs = [.ref a, c] ∧ IsEc H a (.ref D) d ∧ (∀ dd, d = some dd → ∃ fs, H dd = some (.xd fs)) ∧ ExcC K D ∧ (∀ u, RelV c u → u = cv) ∧ PySem.W.kitOne K (.ref D) cv = some b ∧ Q (.bl b) H
theorem call_isV {X : Cx} : CallR X (.builtin "isinstance") (rIsV X.K) := by
  intro pins s σ H xs us Q I r h
  obtain ⟨a, D, d, c, cv, b, rfl, ⟨o0, e0⟩, hd, hC, hcv, e, q⟩ := h
  cases r with
  | cons rx rr =>
    cases rr with
    | cons rt rr =>
      cases rr
      cases rx
      have ec := hcv _ rt
      subst ec
      obtain ⟨_, ⟨oe, vs, hget, hz, hv⟩, _⟩ := I.hok a _ e0
      obtain ⟨od, J⟩ : ∃ od, PySem.W.InstAt s.heap a oe D od := by
        cases d with
        | none =>
          obtain ⟨oc, odx, oda, osl⟩ := oe
          obtain ⟨h1, h2⟩ := hz
          dsimp only at h1 h2 hv
          subst h1 h2 hv
          exact ⟨none, hget, rfl, rfl, trivial⟩
        | some dd =>
          obtain ⟨fs, hx⟩ := hd dd rfl
          obtain ⟨mA, hns, _⟩ := (show ObjOk X.prog X.w H s.heap dd (.xd fs) from I.hok dd _ hx)
          obtain ⟨od, ho, _⟩ := lookIn_ns hns
          exact ⟨some od, hget, hz.1, by unfold PySem.W.notCls; rw [hv] <;> rfl, by rw [hz.2]; exact ho⟩
      have hcl : (PySem.W.clsIn X.K D).isSome = true := by
        obtain ⟨cd, hc, _⟩ := PySem.W.any_some hC.hd
        rw [hc]
        rfl
      exact PySem.W.kia_one (PySem.W.kitx_exc hcl hC.hg hC.hk hC.hs hC.ha hC.hn hC.ht hC.hm) I.kIn J e (fun z => nomatch z) fun tk => ⟨.bl b, H, I.kept (t' := tk) fun _ _ z => z, rfl, q⟩
section
variable {H : Hp} {Q : VK} {K : PySem.W.Frag} {a D C : Addr} {b : Bool} {d : Option Addr}
theorem x_isV (he : IsEc H a (.ref D) d) (hd : ∀ dd, d = some dd → ∃ fs, H dd = some (.xd fs)) (hC : ExcC K D) (e : PySem.W.kitOne K (.ref D) (.ref C) = some b) (q : Q (.bl b) H) : rIsV K [.ref a, .ref C] H Q :=
  ⟨a, D, d, _, _, b, rfl, he, hd, hC, fun u r => r, e, q⟩
theorem x_isVT {T : String} (he : IsEc H a (.ref D) d) (hd : ∀ dd, d = some dd → ∃ fs, H dd = some (.xd fs)) (hC : ExcC K D) (e : PySem.W.kitOne K (.ref D) (.type T) = some b) (q : Q (.bl b) H) : rIsV K [.ref a, .ty T] H Q :=
  ⟨a, D, d, _, _, b, rfl, he, hd, hC, fun u r => r, e, q⟩
end
/-! ### xs.count(y), flat items -/
theorem count_eqU {x : V} : ∀ {xs : List V} {us : List Value}, Vals xs us → xs.all flatV = true → us.countP (eqU x) = xs.countP fun y => eqV y x
  | _, _, .nil, _ => rfl
  | y :: xs, u :: us, .cons r t, f => by
    rw [List.all_cons, Bool.and_eq_true] at f
    rw [List.countP_cons, List.countP_cons, count_eqU t f.2, eqU_of r f.1]
def rCntF (K : PySem.W.Frag) : V → List V → Hp → VK → Prop := fun x xs H Q => ∃ (p : Addr) (ys : List V) (y : V), x = .ref p ∧ xs = [y] ∧ SqL K H p ys ∧ flatV y = true ∧ ys.all flatV = true ∧ Q (.int ((ys.countP fun z => eqV z y : Nat) : Int)) H
theorem mt_lcountF {X : Cx} : MtR X "list.count" (rCntF X.K) := by
  intro pins s σ H x xs v us Q I rx rxs h
  obtain ⟨p, ys, y, rfl, rfl, hs, fy, fys, q⟩ := h
  cases rx
  obtain ⟨u, rfl, ru⟩ := rxs.one
  obtain ⟨its, rv, ⟨⟨cls, dd, data, sl⟩, n, ho, hc, hdn, hd⟩, hlen⟩ := I.list hs
  simp only at hc hd
  subst hc hd
  refine call_meets PySem.F.slot_list_count ⟨_, ho, rfl⟩ PySem.F.entry_list_count (PySem.F.args_list_count_2 _ _)
    (SeqAt.list_countAt p its.toArray n dd sl u (eqU y)) ⟨ho, fun y' hy => mem_eqAt ru fy rv fys y' (by simpa using hy), ?_⟩
  have ec : its.toArray.toList.countP (eqU y) = ys.countP fun z => eqV z y := count_eqU rv fys
  refine ⟨.int ((ys.countP fun z => eqV z y : Nat) : Int), H, I.tok _, ⟨s.toks, ?_⟩, q⟩
  show Value.int ((its.toArray.toList.countP (eqU y) : Nat) : Int) s.toks = Value.int ((ys.countP fun z => eqV z y : Nat) : Int) s.toks
  rw [ec]
theorem x_count {K : PySem.W.Frag} {H : Hp} {Q : VK} {p : Addr} {ys : List V} {y : V} (h : SqL K H p ys) (fy : flatV y = true) (fys : ys.all flatV = true) (q : Q (.int ((ys.countP fun z => eqV z y : Nat) : Int)) H) : rCntF K (.ref p) [y] H Q := ⟨p, ys, y, rfl, rfl, h, fy, fys, q⟩
end Ox

/-! Own layer: exceptions held as values: made, asked for their class and their field. -/
namespace Ox
open PySem PySem.Spec PyProof.Rows L2
/-- X(..), an own exception, as a value -/
def tMkV (t : L2.St → Hp → XK → Prop) : TE := fun σ H Q => t σ H fun cls d H' => ∀ a, H' a = none → ∀ oe, Q (.ref a) (upd H' a (.frz oe (EcO cls d a)))
theorem pe_mkV {X : Cx} {e : Expr} {t : L2.St → Hp → XK → Prop} (m : PMk X e t) : PE X e (tMkV t) := by
  refine ⟨fun pins s σ H Q I h => ?_⟩
  refine wpAny_mono (m pins s σ H _ I h) (fun u s1 hu => ?_) fun _ _ x => x
  obtain ⟨a, oe, vs, sI, H', cls, d, rfl, J, k, hne, ha, hz, hd, _, na, os, ag, _, q⟩ := hu
  have new : ObjOk X.prog X.w (upd H' a (.frz oe (EcO cls d a))) s1.heap a (.frz oe (EcO cls d a)) := ⟨ha, ⟨oe, vs, ha, hz, hd⟩, ⟨oe, ha⟩, fun _ _ ⟨o, v, q, r⟩ k => ⟨o, v, k o q, r⟩⟩
  exact ⟨.ref a, _, J.call' (ch := []) os (Un.laidN k hne na) (HOk.laidN J.hok k na new) ag (fun _ z => nomatch z), rfl, q a na oe⟩
/-- e.y, e an exception held as a value -/
def tByG (K : PySem.W.Frag) (y : Str) (te : TE) : TE := fun σ H Q => te σ H fun x H1 => ∃ (a C dd : Addr) (v : V), x = .ref a ∧ IsEc H1 a (.ref C) (some dd) ∧ ExcG K C y ∧ H1 dd = some (.xd [(y, v)]) ∧ Q v H1
theorem pe_byG {X : Cx} {y : Str} {e : Expr} {te : TE} {pos : Pos} (he : PE X e te) (hb : attributeBase e y X.env (eval e X.env) = eval e X.env := by rfl) : PE X (.Attribute e y pos) (tByG X.K y te) := by
  refine ⟨fun pins s σ H Q I h => ?_⟩
  refine attr_of hb (thn (he.run pins s σ H _ I h) fun u s1 hh => ?_)
  obtain ⟨x, H1, I1, rx, a, C, dd, v, ex, ⟨oe, hfz⟩, T, ea, q⟩ := hh
  subst ex
  obtain rfl : u = Value.ref a := rx
  obtain ⟨ha, hin, _⟩ := (show ObjOk X.prog X.w H1 s1.heap a (.frz oe (EcO (.ref C) (some dd) a)) from I1.hok a _ hfz)
  obtain ⟨oe2, vs, ha2, hz, hd⟩ := hin
  have e2 : oe = oe2 := by rw [ha] at ha2; exact Option.some.inj ha2
  subst e2
  have hx : ObjOk X.prog X.w H1 s1.heap dd (.xd [(y, v)]) := I1.hok dd _ ea
  obtain ⟨mA, hns, hr⟩ := hx
  obtain ⟨od, ho, hl⟩ := lookIn_ns hns
  have l : List.lookup y [(y, v)] = some v := by simp [List.lookup]
  obtain ⟨u, hu, ru⟩ := RelO.some_of (v := v) (o := mA y) (by rw [← l]; exact hr y)
  have J : PySem.W.InstAt s1.heap a oe C (some od) := ⟨ha, hz.1, by unfold PySem.W.notCls; rw [hd] <;> rfl, by rw [hz.2]; exact ho⟩
  exact HandSPX.exc_get I1.kIn J T.ga T.gg T.exC (PySem.W.findObj_own T.hdC T.noN rfl (by rw [hl, hu])) (handed_of ru) ⟨v, H1, I1.tok _, ru, q⟩
section
variable {σ : L2.St} {H : Hp} {Q : VK} {C : Addr} {K : PySem.W.Frag}
theorem x_mkV0 (q : ∀ a, H a = none → ∀ oe, Q (.ref a) (upd H a (.frz oe (EcO (.ref C) none a)))) : tMkV (fun _ H Q => Q (.ref C) none H) σ H Q := q
theorem x_mkVS {y : Str} {ta : TA} (q : ta σ H fun vs H1 => ∃ v, vs = [v] ∧ ∀ d, H1 d = none → ∀ a, (upd H1 d (.xd [(y, v)])) a = none → ∀ oe, Q (.ref a) (upd (upd H1 d (.xd [(y, v)])) a (.frz oe (EcO (.ref C) (some d) a)))) : tMkV (tMkS C y ta) σ H Q := q
theorem x_byG {y : Str} {te : TE} (q : te σ H fun x H1 => ∃ (a C dd : Addr) (v : V), x = .ref a ∧ IsEc H1 a (.ref C) (some dd) ∧ ExcG K C y ∧ H1 dd = some (.xd [(y, v)]) ∧ Q v H1) : tByG K y te σ H Q := q
end
/-- either rule -/
def rOr (r1 r2 : R2) : R2 := fun x y H Q => r1 x y H Q ∨ r2 x y H Q
theorem op_or2 {X : Cx} {f : Value → Value → Sem Value} {r1 r2 : R2} (a : OpR X f r1) (b : OpR X f r2) : OpR X f (rOr r1 r2) := fun pins s σ H x y v u Q I rx ry h => h.elim (a pins s σ H x y v u Q I rx ry) (b pins s σ H x y v u Q I rx ry)
/-- all the classes' kinship: each is of itself alone -/
def KitAll (K : PySem.W.Frag) (cs : List Addr) : Prop := ∀ (i j : Nat) (a b : Addr), cs[i]? = some a → cs[j]? = some b → PySem.W.kitOne K (.ref a) (.ref b) = some (decide (i = j))
/-- .. all of them beneath C -/
def KitUp (K : PySem.W.Frag) (cs : List Addr) (C : Addr) : Prop := ∀ (i : Nat) (a : Addr), cs[i]? = some a → PySem.W.kitOne K (.ref a) (.ref C) = some true
def KitUpT (K : PySem.W.Frag) (cs : List Addr) (T : String) : Prop := ∀ (i : Nat) (a : Addr), cs[i]? = some a → PySem.W.kitOne K (.ref a) (.type T) = some true
def ExcAll (K : PySem.W.Frag) (cs : List Addr) : Prop := ∀ (i : Nat) (a : Addr), cs[i]? = some a → ExcC K a
theorem map_at {α β : Type} {f : α → β} {l : List α} {i : Nat} {b : β} (h : (l.map f)[i]? = some b) : ∃ a, l[i]? = some a ∧ f a = b := by
  rw [List.getElem?_map] at h
  cases e : l[i]? with
  | none => rw [e] at h; cases h
  | some a => rw [e] at h; exact ⟨a, rfl, Option.some.inj h⟩
theorem kitAllF_ok {ns : List Str} {K : PySem.W.Frag} (h : kitAllF ns K = true) : KitAll K (ns.map (He.ga K)) := fun i j a b ha hb => by
  obtain ⟨x, hx, rfl⟩ := map_at ha
  obtain ⟨y, hy, rfl⟩ := map_at hb
  have h1 := List.all_eq_true.mp h (x, i) (List.mk_mem_zipIdx_iff_getElem?.mpr hx)
  have h2 := List.all_eq_true.mp h1 (y, j) (List.mk_mem_zipIdx_iff_getElem?.mpr hy)
  exact of_decide_eq_true h2
theorem kitUpF_ok {ns : List Str} {C : Str} {K : PySem.W.Frag} (h : kitUpF ns C K = true) : KitUp K (ns.map (He.ga K)) (He.ga K C) := fun i a ha => by
  obtain ⟨x, hx, rfl⟩ := map_at ha
  exact of_decide_eq_true (List.all_eq_true.mp h x (List.mem_of_getElem? hx))
theorem kitUpTF_ok {ns : List Str} {T : String} {K : PySem.W.Frag} (h : kitUpTF ns T K = true) : KitUpT K (ns.map (He.ga K)) T := fun i a ha => by
  obtain ⟨x, hx, rfl⟩ := map_at ha
  exact of_decide_eq_true (List.all_eq_true.mp h x (List.mem_of_getElem? hx))
theorem excAllF_ok {ns : List Str} {K : PySem.W.Frag} (h : excAllF ns K = true) : ExcAll K (ns.map (He.ga K)) := fun i a ha => by
  obtain ⟨x, hx, rfl⟩ := map_at ha
  exact excCF_ok (List.all_eq_true.mp h x (List.mem_of_getElem? hx))
end Ox

/-! Own hook, second form: beside defs, __init__s that say super(). -/
namespace Oh
open PySem PySem.Spec PyProof.Rows L2
/-- the text of such an __init__ -/
def IsSup (st : Stmt) (y : Str) : Prop := ∃ (txt : Str) (p1 p2 q1 q2 q3 q4 q5 q6 q7 q8 q9 q10 : Pos), defArgs st = PySem.SupX.iA y p1 p2 ∧ defBody st = PySem.SupX.iB y txt q1 q2 q3 q4 q5 q6 q7 q8 q9 q10 ∧ defScope st = PySem.SupX.iS y ∧ (q3.endLine == q5.line) = true
theorem Sd.fn_ {d : Sd} {file : Str} {K : Frag} {P : Program} (s : IsSup d.st d.fld) (e : d.fnd K = d.due) (g : d.good file K = true) (hf : (P.main.file == file) = true) :
    ∃ (oc : Value) (od : Option Addr) (kV doc pm : Value) (an : Option Addr) (cda : Addr) (ct : Value) (osl : Array (Option Value)) (qual txt : Str) (cc : Addr) (p1 p2 q1 q2 q3 q4 q5 q6 q7 q8 q9 q10 : Pos),
    K.lookup (d.spot K) = some ⟨oc, od, .func (PySem.W.ksFn "__init__" qual (PySem.SupX.iA d.fld p1 p2) (PySem.SupX.iB d.fld txt q1 q2 q3 q4 q5 q6 q7 q8 q9 q10) (PySem.SupX.iS d.fld) .none kV doc pm an (.ref cda) ct cc), osl⟩ ∧ PySem.W.codeIn K (.ref cda) qual = true ∧
    (∃ (ccl : Value) (cdd : Option Addr) (vs : Array Value) (ccs : Array (Option Value)) (file : Str) (tf : Tok), K.lookup cda = some ⟨ccl, cdd, .fields vs, ccs⟩ ∧ vs[2]? = some (.str file tf) ∧ ((P.main.file : Str) == file) = true) ∧
    (∃ (cl : Value) (cld : Option Addr) (csl : Array (Option Value)), K.lookup cc = some ⟨cl, cld, .cell (some (.ref (He.ga K d.cls))), csl⟩) ∧ (q3.endLine == q5.line) = true := by
  obtain ⟨txt, p1, p2, q1, q2, q3, q4, q5, q6, q7, q8, q9, q10, e1, e2, e3, hl⟩ := s
  unfold Sd.fnd at e
  unfold Sd.good at g
  cases q : K.lookup (d.spot K) with
  | none => rw [q] at g; cases g
  | some o =>
    obtain ⟨oc, od, dt, osl⟩ := o
    rw [q] at e g
    cases dt with
    | func fd =>
      obtain ⟨n1, n2, n3, n4, n5, n6, n7, n8, n9, n10, n11, n12, n13, n14, n15⟩ := fd
      have e4 : (some (n1, n2, n3, n4, n5, n6, [], n15) : He.FnW) = (some ("__init__", d.qual, defArgs d.st, .stmts (defBody d.st), defScope d.st, mainGlobals, [], builtinsNs) : He.FnW) := e
      have g2 : (cellB K (He.ga K d.cls) n7 && (fileB K file n13 && (PySem.W.codeIn K n13 d.qual && isNon n8))) = true := g
      obtain ⟨g3, g4⟩ := Bool.and_eq_true_iff.mp g2
      obtain ⟨g5, g6⟩ := Bool.and_eq_true_iff.mp g4
      obtain ⟨g7, g8⟩ := Bool.and_eq_true_iff.mp g6
      have e8 : n8 = .none := by
        cases n8 with
        | none => rfl
        | _ => cases g8
      rw [e1, e2, e3] at e4
      simp only [Option.some.injEq, Prod.mk.injEq] at e4
      obtain ⟨h1, h2, h3, h4, h5, h6, _, h8⟩ := e4
      obtain ⟨cc, ec, cl, cld, csl, hcc⟩ : ∃ cc, n7 = [(("__class__" : Str), cc)] ∧ ∃ (cl : Value) (cld : Option Addr) (csl : Array (Option Value)), K.lookup cc = some ⟨cl, cld, .cell (some (.ref (He.ga K d.cls))), csl⟩ := by
        unfold cellB at g3
        split at g3
        · rename_i n cc
          obtain ⟨a, b⟩ := Bool.and_eq_true_iff.mp g3
          refine ⟨cc, by rw [of_decide_eq_true a], ?_⟩
          split at b
          · rename_i o ho
            obtain ⟨o1, o2, o3, o4⟩ := o
            split at b
            · rename_i D hD
              have hD' : o3 = .cell (some (.ref D)) := hD
              have := of_decide_eq_true b
              subst this
              subst hD'
              exact ⟨_, _, _, ho⟩
            · cases b
          · cases b
        · cases g3
      obtain ⟨cda, ecda, ccl, cdd, vs, ccs, f, tf, hcda, hvs, hff⟩ : ∃ cda, n13 = .ref cda ∧ ∃ (ccl : Value) (cdd : Option Addr) (vs : Array Value) (ccs : Array (Option Value)) (f : Str) (tf : Tok), K.lookup cda = some ⟨ccl, cdd, .fields vs, ccs⟩ ∧ vs[2]? = some (.str f tf) ∧ f = file := by
        unfold fileB at g5
        split at g5
        · rename_i cda
          split at g5
          · rename_i o ho
            obtain ⟨o1, o2, o3, o4⟩ := o
            split at g5
            · rename_i vs hv
              have hv' : o3 = .fields vs := hv
              subst hv'
              split at g5
              · rename_i f tf hx
                exact ⟨cda, rfl, _, _, _, _, f, tf, ho, hx, of_decide_eq_true g5⟩
              · cases g5
            · cases g5
          · cases g5
        · cases g5
      subst h1 h2 h3 h4 h5 h6 h8 e8 ec ecda hff
      exact ⟨oc, od, n9, n10, n11, n12, cda, n14, osl, d.qual, txt, cc, p1, p2, q1, q2, q3, q4, q5, q6, q7, q8, q9, q10, rfl, g7, ⟨ccl, cdd, vs, ccs, f, tf, hcda, hvs, hf⟩, ⟨cl, cld, csl, hcc⟩, hl⟩
    | _ => cases g
theorem oexB_ok {K : Frag} {C : Addr} (q : oexB K C = true) : ∃ nm q N bs bm sn sub ab col dd k0 k1 k2 k3 k5, K.lookup C = some (excClassObj nm q C N bs bm true sn sub ab col dd k0 k1 k2 k3 k5 "ValueError.__new__") ∧ PySem.HandSPX.refsVE bm = true := by
  unfold oexB at q
  split at q
  · rename_i dd cd sl ho
    split at q
    · rename_i C' bm k0 k1 k2 k3 n k5 hm hs
      simp only [Bool.and_eq_true, beq_iff_eq, Bool.not_eq_true'] at q
      obtain ⟨⟨⟨⟨rfl, rfl⟩, hdel⟩, hdi⟩, ht⟩ := q
      obtain ⟨nm, bs, mro, ns, qn, hd, sn, sub, ab, col, del⟩ := cd
      dsimp only at hm hdel hdi
      subst hm hdel hdi
      have hsl : sl = #[k0, k1, k2, k3, some (.builtin "ValueError.__new__"), k5] := by
        obtain ⟨l⟩ := sl
        simp only at hs
        rw [hs]
      subst hsl
      exact ⟨nm, qn, ns, bs, bm, sn, sub, ab, col, dd, k0, k1, k2, k3, k5, ho, ht⟩
    · cases q
  · cases q
/-- what a law's head gives -/
theorem supB_ok {x y : Str} {K : Frag} {mg : Str → Option Value} {P : Program} {file : Str} {d : Sd} (hb : supB x y K = true) (gC : mg x = some (.ref (He.ga K x))) (noS : mg "super" = none) (top : (P.main.scope.names.lookup ("super" : Str)).isSome = false) (hf : (P.main.file == file) = true)
    (f : PySem.SupX.Fld y) (ec : d.cls = x) (ey : d.fld = y) (s : IsSup d.st d.fld) (e : d.fnd K = d.due) (g : d.good file K = true) : Ox.ExcF P K mg x y (He.ga K x) := by
  subst ec ey
  obtain ⟨h1, h⟩ := Bool.and_eq_true_iff.mp hb
  obtain ⟨h2, h⟩ := Bool.and_eq_true_iff.mp h
  obtain ⟨h3, h⟩ := Bool.and_eq_true_iff.mp h
  obtain ⟨h4, h⟩ := Bool.and_eq_true_iff.mp h
  obtain ⟨h5, h⟩ := Bool.and_eq_true_iff.mp h
  obtain ⟨h6, h⟩ := Bool.and_eq_true_iff.mp h
  obtain ⟨h7, h⟩ := Bool.and_eq_true_iff.mp h
  obtain ⟨h8, h⟩ := Bool.and_eq_true_iff.mp h
  obtain ⟨h9, h⟩ := Bool.and_eq_true_iff.mp h
  obtain ⟨h10, h⟩ := Bool.and_eq_true_iff.mp h
  obtain ⟨h11, h⟩ := Bool.and_eq_true_iff.mp h
  obtain ⟨h12, h⟩ := Bool.and_eq_true_iff.mp h
  obtain ⟨h13, h⟩ := Bool.and_eq_true_iff.mp h
  obtain ⟨h14, h15⟩ := Bool.and_eq_true_iff.mp h
  exact ⟨_, f, gC, noS, oexB_ok h1, He.eqO_ok h2, He.eqO_ok h3, He.eqO_ok h4, He.eqO_ok h5, He.eqO_ok h6, of_decide_eq_true h7, h8, of_decide_eq_true h9, of_decide_eq_true h10, of_decide_eq_true h11, of_decide_eq_true h12, h13, He.eqO_ok h14, He.eqO_ok h15, top, Sd.fn_ s e g hf⟩
theorem supB_g {x y : Str} {K : Frag} (hb : supB x y K = true) : Ox.ExcG K (He.ga K x) y := by
  obtain ⟨h1, h⟩ := Bool.and_eq_true_iff.mp hb
  obtain ⟨h2, h⟩ := Bool.and_eq_true_iff.mp h
  obtain ⟨h3, h⟩ := Bool.and_eq_true_iff.mp h
  obtain ⟨h4, h⟩ := Bool.and_eq_true_iff.mp h
  obtain ⟨h5, h⟩ := Bool.and_eq_true_iff.mp h
  obtain ⟨h6, h⟩ := Bool.and_eq_true_iff.mp h
  obtain ⟨h7, h⟩ := Bool.and_eq_true_iff.mp h
  obtain ⟨h8, h⟩ := Bool.and_eq_true_iff.mp h
  obtain ⟨h9, h⟩ := Bool.and_eq_true_iff.mp h
  obtain ⟨h10, h⟩ := Bool.and_eq_true_iff.mp h
  obtain ⟨h11, h⟩ := Bool.and_eq_true_iff.mp h
  obtain ⟨h12, h⟩ := Bool.and_eq_true_iff.mp h
  obtain ⟨h13, h⟩ := Bool.and_eq_true_iff.mp h
  exact ⟨He.eqO_ok h3, He.eqO_ok h4, of_decide_eq_true h9, h13, He.eqO_ok h5⟩
/-! the hook -/
section
variable {file : Str} {fa : List (Frag → Bool)} {ds : List Dd} {ss : List Sd} {K : Frag}
theorem Told2.told (c : Told2 file fa ds ss K) : Told fa ds K := by
  have c1 := congrArg (fun z : Ob => z.1) c
  have c2 := congrArg (fun z : Ob => z.2) c
  have a1 : ((fa.all fun f => f K) && (ds.all (fun d => d.good K) && ss.all fun d => d.good file K)) = true := c1
  obtain ⟨b1, b2⟩ := Bool.and_eq_true_iff.mp a1
  obtain ⟨b3, b4⟩ := Bool.and_eq_true_iff.mp b2
  have a2 : ds.map (fun d => d.fnd K) ++ ss.map (fun d => d.fnd K) = ds.map Dd.due ++ ss.map Sd.due := c2
  have a3 := (List.append_inj a2 (by simp)).1
  show ((fa.all fun f => f K) && ds.all fun d => d.good K, ds.map fun d => d.fnd K) = (true, ds.map Dd.due)
  rw [b1, b3, a3]
  rfl
theorem Told2.sup (c : Told2 file fa ds ss K) (i : Nat) {d : Sd} (h : ss[i]? = some d) : d.fnd K = d.due ∧ d.good file K = true := by
  have c1 := congrArg (fun z : Ob => z.1) c
  have c2 := congrArg (fun z : Ob => z.2) c
  have a1 : ((fa.all fun f => f K) && (ds.all (fun d => d.good K) && ss.all fun d => d.good file K)) = true := c1
  obtain ⟨b1, b2⟩ := Bool.and_eq_true_iff.mp a1
  obtain ⟨b3, b4⟩ := Bool.and_eq_true_iff.mp b2
  have a2 : ds.map (fun d => d.fnd K) ++ ss.map (fun d => d.fnd K) = ds.map Dd.due ++ ss.map Sd.due := c2
  have a3 := (List.append_inj a2 (by simp)).2
  have e2 : (ss.map fun d => d.fnd K)[i]? = (ss.map Sd.due)[i]? := by rw [a3]
  rw [List.getElem?_map, List.getElem?_map, h] at e2
  exact ⟨Option.some.inj e2, List.all_eq_true.mp b4 d (List.mem_of_getElem? h)⟩
end
end Oh

namespace Law
open PySem PySem.Spec PyProof.Rows L2 Ox
abbrev N_pool : List Str := ["_law_script", "_law_pool_here", "_law_k", "_law_number"]
theorem sc_pool : FnScope N_pool ["_law_script"] (defScope s_pool) := ⟨rfl, rfl, rfl, by decide +kernel, rfl, by decide +kernel, by decide +kernel⟩
theorem bd_pool {K : PySem.W.Frag} {f : Addr} {fd : FuncData} (F : Fun K "_law_pool" "_law_pool" s_pool f fd) : Binds K fd ["_law_script"] [] := F.binds fun _ _ _ _ _ _ us hl => match us, hl with | [_], _ => rfl
abbrev N_draw : List Str := ["_law_pool_here", "_law_many", "_law_found", "_law_mixed"]
theorem sc_draw : FnScope N_draw ["_law_pool_here", "_law_many"] (defScope s_draw) := ⟨rfl, rfl, rfl, by decide +kernel, rfl, by decide +kernel, by decide +kernel⟩
theorem bd_draw {K : PySem.W.Frag} {f : Addr} {fd : FuncData} (F : Fun K "_law_draw" "_law_draw" s_draw f fd) : Binds K fd ["_law_pool_here", "_law_many"] [] := F.binds fun _ _ _ _ _ _ us hl => match us, hl with | [_, _], _ => rfl
abbrev N_word : List Str := ["_law_pool_here", "_law_longest", "_law_letters", "_law_signs", "_law_word_here", "_law_k"]
theorem sc_word : FnScope N_word ["_law_pool_here", "_law_longest"] (defScope s_word) := ⟨rfl, rfl, rfl, by decide +kernel, rfl, by decide +kernel, by decide +kernel⟩
theorem bd_word {K : PySem.W.Frag} {f : Addr} {fd : FuncData} (F : Fun K "_law_word" "_law_word" s_word f fd) : Binds K fd ["_law_pool_here", "_law_longest"] [] := F.binds fun _ _ _ _ _ _ us hl => match us, hl with | [_, _], _ => rfl
abbrev N_l_thing : List Str := ["_law_pool_here", "_law_things"]
theorem sc_l_thing : FnScope N_l_thing ["_law_pool_here"] (defScope s_l_thing) := ⟨rfl, rfl, rfl, by decide +kernel, rfl, by decide +kernel, by decide +kernel⟩
theorem bd_l_thing {K : PySem.W.Frag} {f : Addr} {fd : FuncData} (F : Fun K "_law_thing" "_law_thing" s_l_thing f fd) : Binds K fd ["_law_pool_here"] [] := F.binds fun _ _ _ _ _ _ us hl => match us, hl with | [_], _ => rfl
abbrev N_l_made : List Str := ["_law_k", "_law_thing_here"]
theorem sc_l_made : FnScope N_l_made ["_law_k", "_law_thing_here"] (defScope s_l_made) := ⟨rfl, rfl, rfl, by decide +kernel, rfl, by decide +kernel, by decide +kernel⟩
theorem bd_l_made {K : PySem.W.Frag} {f : Addr} {fd : FuncData} (F : Fun K "_law_made" "_law_made" s_l_made f fd) : Binds K fd ["_law_k", "_law_thing_here"] [] := F.binds fun _ _ _ _ _ _ us hl => match us, hl with | [_, _], _ => rfl
abbrev N_l_flags : List Str := ["_law_e", "_law_found"]
theorem sc_l_flags : FnScope N_l_flags ["_law_e"] (defScope s_l_flags) := ⟨rfl, rfl, rfl, by decide +kernel, rfl, by decide +kernel, by decide +kernel⟩
theorem bd_l_flags {K : PySem.W.Frag} {f : Addr} {fd : FuncData} (F : Fun K "_law_flags" "_law_flags" s_l_flags f fd) : Binds K fd ["_law_e"] [] := F.binds fun _ _ _ _ _ _ us hl => match us, hl with | [_], _ => rfl
abbrev N_l_kept : List Str := ["_law_e", "_law_k"]
theorem sc_l_kept : FnScope N_l_kept ["_law_e", "_law_k"] (defScope s_l_kept) := ⟨rfl, rfl, rfl, by decide +kernel, rfl, by decide +kernel, by decide +kernel⟩
theorem bd_l_kept {K : PySem.W.Frag} {f : Addr} {fd : FuncData} (F : Fun K "_law_kept" "_law_kept" s_l_kept f fd) : Binds K fd ["_law_e", "_law_k"] [] := F.binds fun _ _ _ _ _ _ us hl => match us, hl with | [_, _], _ => rfl
abbrev N_l_raised : List Str := ["_law_k", "_law_thing_here", "_law_found", "_law_e"]
theorem sc_l_raised : FnScope N_l_raised ["_law_k", "_law_thing_here"] (defScope s_l_raised) := ⟨rfl, rfl, rfl, by decide +kernel, rfl, by decide +kernel, by decide +kernel⟩
theorem bd_l_raised {K : PySem.W.Frag} {f : Addr} {fd : FuncData} (F : Fun K "_law_raised" "_law_raised" s_l_raised f fd) : Binds K fd ["_law_k", "_law_thing_here"] [] := F.binds fun _ _ _ _ _ _ us hl => match us, hl with | [_, _], _ => rfl
abbrev N_law : List Str := ["_law_script", "_law_pool_here", "_law_kind", "_law_thing_here", "_law_k", "_law_e", "_law_due", "_law_j"]
theorem sc_law : FnScope N_law ["_law_script"] (defScope s_law) := ⟨rfl, rfl, rfl, by decide +kernel, rfl, by decide +kernel, by decide +kernel⟩
theorem bd_law {K : PySem.W.Frag} {f : Addr} {fd : FuncData} (F : Fun K "law" "law" s_law f fd) : Binds K fd ["_law_script"] [] := F.binds fun _ _ _ _ _ _ us hl => match us, hl with | [_], _ => rfl
end Law
namespace Law
open PySem PySem.Spec PyProof.Rows L2 Ox
local macro_rules | `(tactic| walk_at "hp") => `(tactic| first
  | assumption
  | exact upd_same
  | (refine (upd_ne ?_).trans ?_; (walk_at "ne"); (walk_at "hp")))
local macro_rules | `(tactic| walk_at "ne") => `(tactic| first
  | assumption
  | exact Ne.symm (by assumption)
  | exact ne_old (by assumption) (by walk_at "hp")
  | exact Ne.symm (ne_old (by assumption) (by walk_at "hp"))
  | exact ne_two (by walk_at "hp") (by walk_at "hp") (by intro z; cases z)
  | exact fun z => absurd z (by decide))
local macro_rules | `(tactic| walk_at "kd") => `(tactic| first
  | exact .non
  | exact .bl _
  | exact .int _
  | exact .str _
  | assumption
  | exact .lst (SqL.of (by walk_at "hp"))
  | exact .tup (SqT.of (by walk_at "hp"))
  | exact .dict (.inl (by walk_at "hp")))
local macro_rules | `(tactic| walk_at "cond") => `(tactic| first
  | omega
  | exact mulok_r (by omega) (by omega)
  | exact mulok_l (by omega) (by omega)
  | exact divok (by omega) (by omega)
  | exact divok2 (by omega) (by omega)
  | exact ⟨by omega, by decide +kernel⟩
  | decide +kernel)
local macro_rules | `(tactic| walk_at "go") => `(tactic| repeat (first
  | (with_reducible refine x_seq ?_)
  | (with_reducible refine x_next ?_)
  | (with_reducible refine x_brk ?_)
  | (with_reducible refine x_cont ?_)
  | (with_reducible refine x_ret ?_)
  | (with_reducible refine x_retN ?_)
  | (with_reducible refine x_set ?_)
  | (with_reducible refine x_if ?_)
  | (with_reducible refine x_drop ?_)
  | (with_reducible refine x_par ?_)
  | (with_reducible refine x_par2 ?_)
  | (with_reducible refine x_setL ?_)
  | ((with_reducible refine' x_var ?xh ?_); (case xh => exact rfl))
  | ((with_reducible refine' x_aug ?xh ?_); (case xh => exact rfl))
  | (with_reducible refine x_c ?_)
  | (with_reducible refine x_op ?_)
  | (with_reducible refine x_un ?_)
  | (with_reducible refine x_I0 ?_)
  | (with_reducible refine x_ipI ?_)
  | ((with_reducible refine x_I ?xh ?_); (case xh => walk_at "cond"))
  | (with_reducible refine x_U ?_)
  | (with_reducible refine x_eqI ?_)
  | (with_reducible refine x_eqS ?_)
  | (with_reducible refine x_eqB ?_)
  | (with_reducible refine x_neI ?_)
  | (with_reducible refine x_neS ?_)
  | (with_reducible refine x_neB ?_)
  | (with_reducible refine x_blV ?_)
  | (with_reducible refine x_bl ?_)
  | (with_reducible refine x_test ?_)
  | (with_reducible refine x_B ?_)
  | (with_reducible refine x_not ?_)
  | (with_reducible refine x_and ?_)
  | (with_reducible refine x_or ?_)
  | (with_reducible refine x_andV ?_)
  | (with_reducible refine x_orV ?_)
  | (with_reducible refine x_notV ?_)
  | (with_reducible refine x_ifE ?_)
  | (with_reducible refine x_chain ?_)
  | (with_reducible refine x_nil ?_)
  | (with_reducible refine x_cons ?_)
  | (with_reducible refine x_tup ?_)
  | (with_reducible refine x_lst ?_)
  | (with_reducible refine x_cb ?_)
  | (with_reducible refine x_call ?_)
  | (with_reducible refine x_make ?_)
  | (with_reducible refine x_Fld ?_)
  | (with_reducible refine x_forL ?_)
  | (with_reducible refine x_forT ?_)
  | (with_reducible refine x_forR ?_)
  | (with_reducible refine x_forR2 ?_)
  | (with_reducible refine x_forS ?_)
  | (with_reducible refine x_forK ?_)
  | (with_reducible refine x_forI ?_)
  | (with_reducible refine x_forV ?_)
  | (with_reducible refine x_g1 ?_)
  | (with_reducible refine x_lc ?_)
  | (with_reducible refine x_dc ?_)
  | (with_reducible refine x_yes1 ?_)
  | (with_reducible refine x_iK ?_)
  | (with_reducible refine x_iV ?_)
  | (with_reducible refine x_iI ?_)
  | (with_reducible refine x_iL ?_)
  | (with_reducible refine x_iT ?_)
  | (with_reducible refine x_iS ?_)
  | (with_reducible refine x_iR ?_)
  | (with_reducible refine x_dget ?_)
  | (with_reducible refine x_din ?_)
  | (with_reducible refine x_dnin ?_)
  | (with_reducible refine x_dput ?_)
  | (with_reducible refine x_newK ?_)
  | (with_reducible refine x_listV ?_)
  | (with_reducible refine x_sfld ?_)
  | (with_reducible refine x_revL ?_)
  | (with_reducible refine x_prop ?_)
  | (with_reducible refine x_sl ?_)
  | (with_reducible refine x_forE ?_)
  | (with_reducible refine x_mt ?_)
  | (with_reducible refine x_nopart ?_)
  | (with_reducible refine x_part ?_)
  | (with_reducible refine x_parti ?_)
  | (with_reducible refine x_bm ?_)
  | (with_reducible refine x_bm0 ?_)
  | (with_reducible refine x_intI ?_)
  | (with_reducible refine x_max2 ?_)
  | (with_reducible refine x_min2 ?_)
  | (with_reducible refine x_abs ?_)
  | (with_reducible refine x_isN ?_)
  | (with_reducible refine x_notN ?_)
  | (with_reducible refine x_inS ?_)
  | (with_reducible refine x_ninS ?_)
  | (with_reducible refine x_T ?_)
  | (with_reducible refine x_F ?_)
  | (with_reducible refine x_nT ?_)
  | (with_reducible refine x_nF ?_)
  | ((with_reducible refine' x_lenL ?xh ?_); (case xh => exact SqL.of (by walk_at "hp")))
  | ((with_reducible refine' x_tyL ?xh ?_); (case xh => exact SqL.of (by walk_at "hp")))
  ))
/-! ### a list over a range, ends of an if -/
theorem lcR {D : Addr} {g : TG} {tt : TT} {te : TE} {vs : List Nat} {σ : L2.St} {H : Hp} {Qd : Hp → Prop} {m : Nat} (Pv : Nat → Hp → Prop) (h0 : Pv 0 (upd H D (.lst [])))
    (hs : ∀ i H, i < m → Pv i H → g (.int (i : Int)) (wipe σ vs) H fun σ2 H2 => wipe σ2 vs = wipe σ vs ∧ tt σ2 H2 fun b H3 =>
      if b = true then te σ2 H3 fun y H4 => ∃ acc, H4 D = some (.lst acc) ∧ acc.length < sizeLine ∧ Pv (i + 1) (upd H4 D (.lst (acc ++ [y]))) else Pv (i + 1) H3) (hd : ∀ H, Pv m H → Qd H) : LcP (Itr 0 m) g tt te vs σ D Qd H :=
  lc_by walk_range Pv h0 (fun _ _ _ _ => trivial) (fun i x H H' hi hp y => by
    obtain ⟨rfl, rfl⟩ := y
    dsimp only
    rw [Int.zero_add]
    exact hs i _ hi hp) hd
/-- both ends of an if go on alike -/
theorem if_join {α : Type} {c : TT} {t e : TS} {n : L2.St → Hp → Prop} {r : VK} {b k : L2.St → Hp → Prop} {σ : L2.St} {H : Hp} (S : α → Prop) (f : α → L2.St) (h : ∀ n' : L2.St → Hp → Prop, (∀ a, S a → n' (f a) H) → tIfS c t e ⟨n', r, b, k⟩ σ H) (hn : ∀ a, S a → n (f a) H) : tIfS c t e ⟨n, r, b, k⟩ σ H := h n hn
theorem if_joinH {α : Type} {c : TT} {t e : TS} {n : L2.St → Hp → Prop} {r : VK} {b k : L2.St → Hp → Prop} {σ : L2.St} {H : Hp} (S : α → Hp → Prop) (f : α → L2.St) (h : ∀ n' : L2.St → Hp → Prop, (∀ a H', S a H' → n' (f a) H') → tIfS c t e ⟨n', r, b, k⟩ σ H) (hn : ∀ a H', S a H' → n (f a) H') : tIfS c t e ⟨n, r, b, k⟩ σ H := h n hn
/-! ### the pool of draws: nothing is said of what is drawn but its bounds -/
def PoolOk (ns : List Int) : Prop := ∃ x r, ns = x :: r ∧ 0 ≤ x ∧ x < 2147483647 ∧ r.length ≤ 63
abbrev intsV (ns : List Int) : List V := ns.map V.int
def PoolAt (H : Hp) (p : Addr) : Prop := ∃ ns, H p = some (.lst (intsV ns)) ∧ PoolOk ns
def spPool (K : PySem.W.Frag) : Sp := fun vs H Q _ => ∃ (a : Addr) (ns : List Int), vs = [.ref a] ∧ SqL K H a (intsV ns) ∧ ns.length ≤ 63 ∧
  ∀ H' p, L2.Same H H' → H p = none → PoolAt H' p → Q (.ref p) H'
def spDraw : Sp := fun vs H Q _ => ∃ (p : Addr) (m : Int), vs = [.ref p, .int m] ∧ PoolAt H p ∧ 0 < m ∧ m < 2 ^ 200 ∧
  ∀ H' r, But p H H' → PoolAt H' p → 0 ≤ r → r < m → Q (.int r) H'
theorem intsV_at {ns : List Int} {j : Nat} {z : Int} (h : ns[j]? = some z) : atI (intsV ns) (j : Int) = some (.int z) := atI_nat (by rw [List.getElem?_map, h]; rfl)
section
variable {P : Program} {w : World} {K : PySem.W.Frag} {mg : Str → Option Value} {base : Heap}
theorem ok_draw {f : Addr} {fd : FuncData} (F : Fun K "_law_draw" "_law_draw" s_draw f fd) (Z_len : mg "len" = none) (Z_int : mg "int" = none) : FnOk P w K mg base CX0 1 f fd ["_law_pool_here", "_law_many"] spDraw := by
  refine F.ok sc_draw (fun vs H Q E h => ?_) (fun cdv A outer s H vs Q E hr h => ?_)
  · obtain ⟨_, _, rfl, _⟩ := h
    rfl
  · obtain ⟨p, m, rfl, ⟨ns, hp, x, r, rfl, hx, hx2, hl⟩, hm, hm2, k⟩ := h
    refine ⟨_, (pss_cons (ps_if (pt_cmpR op_gt (pe_callB call_lenA (by rfl) Z_len (by decide +kernel) (pa_cons (pv 0) pa_nil)) pe_int (nomark _))
      (pss_cons (ps_set (i := 2) sc_draw.nd rfl (Or.inl rfl) (pe_op op_mod (pe_callTy call_intA (by rfl) Z_int (by decide +kernel) (pa_cons (pe_ix ix_list (pv 0) pe_int (fun _ _ => rfl)) pa_nil)) (pv 1)))
      (pss_cons (ps_asg (pe_op op_fdivA (pe_ix ix_list (pv 0) pe_int (fun _ _ => rfl)) (pv 1)) (pg_sub (pv 0) pe_int set_list))
      (pss_cons (ps_if (pt_cmpR op_le (pe_ix ix_list (pv 0) pe_int (fun _ _ => rfl)) pe_int (nomark _))
      (pss_one (ps_expr (pe_bm PySem.F.plainAttrs_list PySem.F.slot_list_pop PySem.F.type_list_pop mt_popAt (pv 0) (pa_cons pe_int pa_nil))))
      pss_nil)
      (pss_one (ps_ret (pv 2))))))
      pss_nil)
      (pss_cons (ps_asg (pe_op op_mod (pe_callTy call_intA (by rfl) Z_int (by decide +kernel) (pa_cons (pe_op op_add (pe_op op_mulA (pe_ix ix_list (pv 0) pe_int (fun _ _ => rfl)) pe_int) pe_int) pa_nil)) pe_int) (pg_sub (pv 0) pe_int set_list))
      (pss_cons (ps_set (i := 3) sc_draw.nd rfl (Or.inl rfl) (pe_op op_mod (pe_callTy call_intA (by rfl) Z_int (by decide +kernel) (pa_cons (pe_op op_mulA (pe_ix ix_list (pv 0) pe_int (fun _ _ => rfl)) (pe_op op_add (pe_op op_fdivA (pe_ix ix_list (pv 0) pe_int (fun _ _ => rfl)) pe_int) pe_int)) pa_nil)) pe_int))
      (pss_one (ps_ret (pe_op op_mod (pe_callTy call_intA (by rfl) Z_int (by decide +kernel) (pa_cons (pe_op op_fdivA (pv 3) pe_int) pa_nil)) (pv 1))))))), ?_⟩
    walk_at "go"
    refine x_dec (fun hc => ?_) (fun hc => ?_)
    · cases r with
      | nil => simp at hc
      | cons y r =>
        walk_at "go"
        refine x_ixl 1 (SqL.of hp) rfl rfl ?_
        walk_at "go"
        refine x_ixl 1 (SqL.of hp) rfl rfl ?_
        walk_at "go"
        refine x_setl (j := 1) hp rfl (by simp) ?_
        walk_at "go"
        refine x_ixl 1 (SqL.of upd_same) rfl rfl ?_
        walk_at "go"
        have hmod := Int.emod_nonneg y (show m ≠ 0 by omega)
        have hmod2 := Int.emod_lt_of_pos y hm
        refine x_dec (fun hd => ?_) (fun hd => ?_)
        · walk_at "go"
          refine x_popAt (j := 1) (y := .int (y / m)) upd_same rfl rfl (by simp at hl ⊢; omega) ?_
          walk_at "go"
          exact k _ _ (But.refl.at_.at_) ⟨x :: r, upd_same, x, r, rfl, hx, hx2, by simp at hl; omega⟩ hmod hmod2
        · walk_at "go"
          exact k _ _ (But.refl.at_) ⟨x :: (y / m) :: r, upd_same, x, _, rfl, hx, hx2, by simpa using hl⟩ hmod hmod2
    · walk_at "go"
      refine x_ixl 0 (SqL.of hp) rfl rfl ?_
      walk_at "go"
      refine x_setl (j := 0) hp rfl (by simp) ?_
      walk_at "go"
      generalize hz : (x * 48271 + 30103) % 2147483647 = z
      have z0 : 0 ≤ z := by rw [← hz]; exact Int.emod_nonneg _ (by decide)
      have z1 : z < 2147483647 := by rw [← hz]; exact Int.emod_lt_of_pos _ (by decide)
      have ez : (intsV (x :: r)).set 0 (.int z) = intsV (z :: r) := rfl
      rw [ez]
      refine x_ixl 0 (SqL.of upd_same) rfl rfl ?_
      walk_at "go"
      refine x_ixl 0 (SqL.of upd_same) rfl rfl ?_
      walk_at "go"
      exact k _ _ (But.refl.at_) ⟨z :: r, upd_same, z, r, rfl, z0, z1, hl⟩ (Int.emod_nonneg _ (by omega)) (Int.emod_lt_of_pos _ hm)
theorem ok_pool {f : Addr} {fd : FuncData} (F : Fun K "_law_pool" "_law_pool" s_pool f fd) (Z_len : mg "len" = none) (Z_int : mg "int" = none) (Z_min : mg "min" = none) (Z_range : mg "range" = none) : FnOk P w K mg base CX0 1 f fd ["_law_script"] (spPool K) := by
  refine F.ok sc_pool (fun vs H Q E h => ?_) (fun cdv A outer s H vs Q E hr h => ?_)
  · obtain ⟨_, _, rfl, _⟩ := h
    rfl
  · obtain ⟨a, ns, rfl, hS, hlen, k⟩ := h
    refine ⟨_, (pss_cons (ps_set (i := 1) sc_pool.nd rfl (Or.inl rfl) (pe_lst (pa_cons (pe_op op_add (pe_op op_mod (pe_callB call_lenA (by rfl) Z_len (by decide +kernel) (pa_cons (pv 0) pa_nil)) pe_int) pe_int) pa_nil)))
      (pss_cons (ps_for PassesOwn.never rfl (pi_range1 rfl Z_range (pa_cons (pe_callB (call_min2A rfl) (by rfl) Z_min (by decide +kernel) (pa_cons pe_int (pa_cons (pe_callB call_lenA (by rfl) Z_len (by decide +kernel) (pa_cons (pv 0) pa_nil)) pa_nil))) pa_nil)) (pg_name (i := 2) sc_pool.nd rfl (Or.inl rfl))
      (pss_cons (ps_asg (pe_op op_mod (pe_callTy call_intA (by rfl) Z_int (by decide +kernel) (pa_cons (pe_op op_add (pe_op op_add (pe_op op_mulA (pe_ix ix_list (pv 1) pe_int (fun _ _ => rfl)) pe_int) (pe_op op_mod (pe_callTy call_intA (by rfl) Z_int (by decide +kernel) (pa_cons (pe_ix ix_list (pv 0) (pv 2) (fun _ _ => rfl)) pa_nil)) pe_int)) (pe_op op_mulA pe_int (pv 2))) pa_nil)) pe_int) (pg_sub (pv 1) pe_int set_list))
      (pss_one (ps_if (pt_cmpR op_ge (pe_ix ix_list (pv 0) (pv 2) (fun _ _ => rfl)) (pe_op op_powW pe_int pe_int) (nomark _))
      (pss_cons (ps_set (i := 3) sc_pool.nd rfl (Or.inl rfl) (pe_op op_mod (pe_callTy call_intA (by rfl) Z_int (by decide +kernel) (pa_cons (pe_ix ix_list (pv 0) (pv 2) (fun _ _ => rfl)) pa_nil)) (pe_op op_powW (pe_op op_powW pe_int pe_int) pe_int)))
      (pss_one (ps_if (pt_cmpR op_gt (pv 3) pe_int (nomark _))
      (pss_one (ps_expr (pe_bm PySem.F.plainAttrs_list PySem.F.slot_list_append PySem.F.type_list_append mt_append (pv 1) (pa_cons (pv 3) pa_nil))))
      pss_nil)))
      pss_nil))))
      (pss_one (ps_ret (pv 1))))), ?_⟩
    walk_at "go"
    refine x_lenL hS ?_
    walk_at "go"
    refine ⟨sz_le (by simp), fun p hp => ?_⟩
    walk_at "go"
    have s1 : L2.Same H (upd H p (.lst [.int (((intsV ns).length : Int) % 1009 + 17)])) := same_new hp
    refine x_lenL (s1.seq hS) ?_
    walk_at "go"
    have el : (intsV ns).length = ns.length := List.length_map ..
    refine lpR (fun i σ H' => ∃ v2 v3 ps, σ = [some (.ref a), some (.ref p), v2, v3] ∧ L2.Same H H' ∧ H' p = some (.lst (intsV ps)) ∧ PoolOk ps ∧ ps.length ≤ i + 1) ?_ ?_ ?_ ?_
    · rw [el]
      split <;> omega
    · exact ⟨none, none, [_], rfl, s1, upd_same, ⟨_, [], rfl, by omega, by omega, by simp⟩, by simp⟩
    · rintro i σ H' hi ⟨v2, v3, ps, rfl, s2, hps, ⟨x, r, rfl, hx, hx2, hl⟩, hlp⟩
      have hi2 : i < ns.length := by
        rw [el] at hi
        split at hi <;> omega
      have hi3 : i < 63 := by
        rw [el] at hi
        split at hi <;> omega
      obtain ⟨z, hz⟩ : ∃ z, ns[i]? = some z := ⟨_, List.getElem?_eq_getElem hi2⟩
      have hz2 : (intsV ns)[i]? = some (.int z) := by rw [List.getElem?_map, hz]; rfl
      walk_at "go"
      refine x_ixl 0 (SqL.of hps) rfl rfl ?_
      walk_at "go"
      refine x_ixl i (s2.seq hS) rfl hz2 ?_
      walk_at "go"
      refine x_setl (j := 0) hps rfl (by simp) ?_
      walk_at "go"
      generalize hq : (x * 69621 + z % 1000003 + 7 * (i : Int)) % 2147483647 = q
      have q0 : 0 ≤ q := by rw [← hq]; exact Int.emod_nonneg _ (by decide)
      have q1 : q < 2147483647 := by rw [← hq]; exact Int.emod_lt_of_pos _ (by decide)
      have e1 : (intsV (x :: r)).set 0 (.int q) = intsV (q :: r) := rfl
      rw [e1]
      have s3 : L2.Same H (upd H' p (.lst (intsV (q :: r)))) := same_upd s2 hp
      refine x_ixl i (s3.seq hS) rfl hz2 ?_
      walk_at "go"
      refine x_dec (fun hc => ?_) (fun hc => ?_)
      · walk_at "go"
        refine x_ixl i (s3.seq hS) rfl hz2 ?_
        walk_at "go"
        refine x_dec (fun hd => ?_) (fun hd => ?_)
        · walk_at "go"
          refine x_app upd_same (sz_lt (by simp at hlp ⊢; omega)) ?_
          walk_at "go"
          generalize z % (10 ^ Int.toNat 60) ^ Int.toNat 10 = y at hd ⊢
          exact ⟨_, _, q :: (r ++ [y]), rfl, same_upd s3 hp, by rw [upd_same]; simp [intsV], ⟨q, _, rfl, q0, q1, by simp at hlp ⊢; omega⟩, by simp at hlp ⊢; omega⟩
        · walk_at "go"
          exact ⟨_, _, q :: r, rfl, s3, upd_same, ⟨q, r, rfl, q0, q1, hl⟩, by simp at hlp ⊢; omega⟩
      · walk_at "go"
        exact ⟨_, _, q :: r, rfl, s3, upd_same, ⟨q, r, rfl, q0, q1, hl⟩, by simp at hlp ⊢; omega⟩
    · rintro σ H' ⟨v2, v3, ps, rfl, s2, hps, hok, hlp⟩
      walk_at "go"
      exact k _ _ s2 hp ⟨ps, hps, hok⟩
end
theorem PoolAt.upd {H : Hp} {p q : Addr} {o : HO} (h : PoolAt H p) (n : p ≠ q) : PoolAt (upd H q o) p := by
  obtain ⟨ns, e, ok⟩ := h
  exact ⟨ns, by rw [upd_ne n]; exact e, ok⟩
theorem PoolAt.new {H : Hp} {p q : Addr} {o : HO} (h : PoolAt H p) (n : H q = none) : PoolAt (L2.upd H q o) p := by
  obtain ⟨ns, e, ok⟩ := h
  exact ⟨ns, by rw [upd_ne (ne_of_none e n)]; exact e, ok⟩
theorem PoolAt.ne {H : Hp} {p q : Addr} (h : PoolAt H p) (n : H q = none) : q ≠ p := by
  obtain ⟨ns, e, ok⟩ := h
  exact fun z => by rw [z, e] at n; cases n
theorem PoolAt.same {H H' : Hp} {p : Addr} (h : PoolAt H p) (s : L2.Same H H') : PoolAt H' p := by
  obtain ⟨ns, e, ok⟩ := h
  exact ⟨ns, s _ _ e, ok⟩
theorem PoolAt.ned {H : Hp} {p d : Addr} {kvs : List (Key × V)} (h : PoolAt H p) (n : H d = some (.dK kvs)) : d ≠ p := by
  obtain ⟨ns, e, ok⟩ := h
  exact fun z => by rw [z, e] at n; cases n
def Side (e : Int) (l : List (Str × Int)) : Prop := (∀ p ∈ l, e ≤ p.2) ∨ (∀ p ∈ l, p.2 ≤ e)
/-! ### names -/
def lowC (d : Nat) : Prop := 97 ≤ d ∧ d ≤ 122
def sgnC (d : Nat) : Prop := (97 ≤ d ∧ d ≤ 122) ∨ (48 ≤ d ∧ d ≤ 57)
instance (d : Nat) : Decidable (lowC d) := inferInstanceAs (Decidable (_ ∧ _))
instance (d : Nat) : Decidable (sgnC d) := inferInstanceAs (Decidable (_ ∨ _))
/-- a name's signs -/
def NameL (l : List Nat) : Prop := ∃ d r, l = d :: r ∧ lowC d ∧ r.length ≤ 7 ∧ ∀ e ∈ r, sgnC e
def NameS (z : Str) : Prop := NameL z.cps.toList
theorem str_len (z : Str) : z.length = z.cps.toList.length := by show z.cps.size = _; simp
theorem tl_app (x y : Str) : (x ++ y).cps.toList = x.cps.toList ++ y.cps.toList := TL.tl_append x y
theorem NameS.len {z : Str} (h : NameS z) : z.length ≤ 8 := by
  obtain ⟨d, r, e, _, hl, _⟩ := h
  rw [str_len, e]
  simp
  omega
theorem letters_at : ∀ j < 26, ("abcdefghijklmnopqrstuvwxyz" : Str).cps.toList[j]? = some (97 + j) := by decide +kernel
theorem signs_at : ∀ j < 36, ∃ d, (("abcdefghijklmnopqrstuvwxyz" : Str) ++ ("0123456789" : Str)).cps.toList[j]? = some d ∧ sgnC d := by
  have h : ∀ j < 36, ((("abcdefghijklmnopqrstuvwxyz" : Str) ++ ("0123456789" : Str)).cps.toList[j]?).any (fun d => decide (sgnC d)) = true := by decide +kernel
  intro j hj
  have h1 := h j hj
  cases e : (("abcdefghijklmnopqrstuvwxyz" : Str) ++ ("0123456789" : Str)).cps.toList[j]? with
  | none => rw [e] at h1; cases h1
  | some d => rw [e] at h1; exact ⟨d, rfl, of_decide_eq_true h1⟩
/-! ### several names, all different -/
def nmS (t : Nat) : Str := ("n" : Str) ++ Str.ofString (toString ((t : Nat) : Int))
theorem nmS_tl (t : Nat) : (nmS t).cps.toList = 110 :: TL.numL t := by
  unfold nmS
  rw [tl_app]
  have e : ("n" : Str).cps.toList = [110] := by decide +kernel
  rw [e]
  show 110 :: _ = _
  exact congrArg (List.cons 110) (TL.tl_num t)
theorem nmS_inj {a b : Nat} (h : nmS a = nmS b) : a = b := by
  have e := congrArg (fun z : Str => z.cps.toList) h
  simp only [nmS_tl, List.cons.injEq, true_and] at e
  exact TL.numL_inj e
theorem nmS_name {t : Nat} (h : t < 1000000) : NameS (nmS t) := by
  refine ⟨110, TL.numL t, nmS_tl t, ⟨by omega, by omega⟩, ?_, fun e he => ?_⟩
  · exact Nat.le_trans (TL.numL_len (k := 6) (by decide) (by simpa using h)) (by decide)
  · have := TL.numL_digits t e he
    exact .inr ⟨this.1, this.2⟩
abbrev strsV (ws : List Str) : List V := ws.map V.str
/-! ### drawn words -/
def spWord : Sp := fun vs H Q _ => ∃ (p : Addr) (m : Int), vs = [.ref p, .int m] ∧ PoolAt H p ∧ 0 < m ∧ m ≤ 8 ∧
  ∀ H' z, But p H H' → PoolAt H' p → NameS z → Q (.str z) H'
section
variable {P : Program} {w : World} {K : PySem.W.Frag} {mg : Str → Option Value} {base : Heap}
theorem ok_word {f : Addr} {fd : FuncData} (F : Fun K "_law_word" "_law_word" s_word f fd) (Z_range : mg "range" = none) (C_draw : Cal P w K mg base 1 "_law_draw" ["_law_pool_here", "_law_many"] spDraw) : FnOk P w K mg base CX0 2 f fd ["_law_pool_here", "_law_longest"] spWord := by
  refine F.ok sc_word (fun vs H Q E h => ?_) (fun cdv A outer s H vs Q E hr h => ?_)
  · obtain ⟨_, _, rfl, _⟩ := h
    rfl
  · obtain ⟨p, m, rfl, hp, hm, hm2, k⟩ := h
    refine ⟨_, (pss_cons (ps_set (i := 2) sc_word.nd rfl (Or.inl rfl) pe_str)
      (pss_cons (ps_set (i := 3) sc_word.nd rfl (Or.inl rfl) (pe_op op_addSA (pv 2) pe_str))
      (pss_cons (ps_set (i := 4) sc_word.nd rfl (Or.inl rfl) (pe_ix ix_str (pv 2) (pe_cal C_draw (hr.mono (by decide)) (by rfl) (pa_cons (pv 0) (pa_cons pe_int pa_nil))) (fun _ _ => rfl)))
      (pss_cons (ps_for PassesOwn.never rfl (pi_range1 rfl Z_range (pa_cons (pe_cal C_draw (hr.mono (by decide)) (by rfl) (pa_cons (pv 0) (pa_cons (pv 1) pa_nil))) pa_nil)) (pg_name (i := 5) sc_word.nd rfl (Or.inl rfl))
      (pss_one (ps_set (i := 4) sc_word.nd rfl (Or.inl rfl) (pe_op op_addSA (pv 4) (pe_ix ix_str (pv 3) (pe_cal C_draw (hr.mono (by decide)) (by rfl) (pa_cons (pv 0) (pa_cons pe_int pa_nil))) (fun _ _ => rfl))))))
      (pss_one (ps_ret (pv 4))))))), ?_⟩
    walk_at "go"
    refine x_addS (by decide +kernel) ?_
    walk_at "go"
    refine ⟨p, 26, rfl, hp, by decide, by decide, fun H1 j b1 p1 j0 j1 => ?_⟩
    refine x_ixs j.toNat (by decide +kernel) (by omega) (letters_at _ (by omega)) ?_
    walk_at "go"
    refine ⟨p, m, rfl, p1, hm, by omega, fun H2 n b2 p2 n0 n1 => ?_⟩
    refine lpR (fun i σ H' => ∃ z v, σ = [some (.ref p), some (.int m), some (.str ("abcdefghijklmnopqrstuvwxyz" : Str)), some (.str (("abcdefghijklmnopqrstuvwxyz" : Str) ++ ("0123456789" : Str))), some (.str z), v] ∧ But p H H' ∧ PoolAt H' p ∧
      ∃ d r, z.cps.toList = d :: r ∧ lowC d ∧ r.length ≤ i ∧ ∀ e ∈ r, sgnC e) ?_ ?_ ?_ ?_
    · omega
    · exact ⟨_, none, rfl, b1.trans b2, p2, _, [], rfl, ⟨by omega, by omega⟩, by simp, by simp⟩
    · rintro i σ H' hi ⟨z, v, rfl, b3, p3, d, r, ez, hd, hl, hr2⟩
      walk_at "go"
      refine ⟨p, 36, rfl, p3, by decide, by decide, fun H4 j b4 p4 j2 j3 => ?_⟩
      obtain ⟨e, he, hs⟩ := signs_at j.toNat (by omega)
      refine x_ixs j.toNat (by decide +kernel) (by omega) he ?_
      refine x_addS (sz_le ?_) ?_
      · rw [str_len, ez]
        show _ + 1 ≤ _
        simp
        omega
      walk_at "go"
      refine ⟨_, _, rfl, b3.trans b4, p4, d, r ++ [e], ?_, hd, ?_, ?_⟩
      · rw [tl_app, ez]
        rfl
      · simp
        omega
      · intro x hx
        rcases List.mem_append.mp hx with hx | hx
        · exact hr2 x hx
        · rw [List.mem_singleton.mp hx]
          exact hs
    · rintro σ H' ⟨z, v, rfl, b3, p3, d, r, ez, hd, hl, hr2⟩
      walk_at "go"
      exact k _ _ b3 p3 ⟨d, r, ez, hd, by omega, hr2⟩
end
def spWords : Sp := fun vs H Q _ => ∃ (p : Addr) (m : Int), vs = [.ref p, .int m] ∧ PoolAt H p ∧ 0 ≤ m ∧ m ≤ 1000 ∧
  ∀ H' q ws, But p H H' → PoolAt H' p → H q = none → H' q = some (.lst (strsV ws)) → ws.length = m.toNat → (∀ z ∈ ws, NameS z) → ws.Nodup → Q (.ref q) H'
theorem all_nm {ws : List Str} {n : Nat} (h : ∀ t < n, nmS t ∈ ws) : n ≤ ws.length := by
  have nd : ((List.range n).map nmS).Nodup := by
    refine List.pairwise_map.mpr (List.Pairwise.imp (fun {a b} hab e => ?_) (List.nodup_range (n := n)))
    exact hab (nmS_inj e)
  have sub : ((List.range n).map nmS) ⊆ ws := fun x hx => by
    obtain ⟨t, ht, rfl⟩ := List.mem_map.mp hx
    exact h t (List.mem_range.mp ht)
  have := List.Nodup.length_le_of_subset nd sub
  simpa using this
section
variable {P : Program} {w : World} {K : PySem.W.Frag} {mg : Str → Option Value} {base : Heap}
end
/-! ### integers and names -/
def isIntK : Kn → Bool
  | .int => true
  | _ => false
def nameL : List Nat → Bool
  | [] => false
  | d :: r => decide (r.length ≤ 7) && (decide (lowC d) && r.all fun e => decide (sgnC e))
def nameV : V → Bool
  | .str z => nameL z.cps.toList
  | _ => false
theorem nameL_iff {l : List Nat} : nameL l = true ↔ NameL l := by
  cases l with
  | nil =>
    refine ⟨fun h => (by cases h), fun h => ?_⟩
    obtain ⟨d, r, e, _⟩ := h
    cases e
  | cons d r =>
    show (decide (r.length ≤ 7) && (decide (lowC d) && r.all fun e => decide (sgnC e))) = true ↔ _
    rw [Bool.and_eq_true, Bool.and_eq_true, decide_eq_true_iff, decide_eq_true_iff, List.all_eq_true]
    refine ⟨fun ⟨h1, h2, h3⟩ => ⟨d, r, rfl, h2, h1, fun e he => of_decide_eq_true (h3 e he)⟩, fun h => ?_⟩
    obtain ⟨d', r', e, h2, h1, h3⟩ := h
    injection e with e1 e2
    subst e1 e2
    exact ⟨h1, h2, fun e he => decide_eq_true (h3 e he)⟩
theorem NameS.v {z : Str} (h : NameS z) : nameV (.str z) = true := nameL_iff.mpr h
/-- a value of a known kind; a text not too long -/
def Fine (K : PySem.W.Frag) (H : Hp) (x : V) (k : Kn) : Prop := Kd K H x k ∧ ∀ z, x = .str z → z.length ≤ 10000
def spIsInt (K : PySem.W.Frag) : Sp := fun vs H Q _ => ∃ x k, vs = [x] ∧ Kd K H x k ∧ Q (.bl (isIntK k)) H
def spIsName (K : PySem.W.Frag) : Sp := fun vs H Q _ => ∃ x k, vs = [x] ∧ Fine K H x k ∧ Q (.bl (nameV x)) H
section
variable {P : Program} {w : World} {K : PySem.W.Frag} {mg : Str → Option Value} {base : Heap}
end
/-! ### a def called within an except suite; what is handled is told by the heap -/
structure FnW (P : Program) (w : World) (K : PySem.W.Frag) (mg : Str → Option Value) (base : Heap) (k : Nat) (f : Addr) (fd : FuncData) (ps : List Str) (sp : Sp) : Prop where
  len : ∀ vs H Q E, sp vs H Q E → vs.length = ps.length
  run : ∀ (A : Around) (outer : List Env) (s : Shared) (H : Hp) (args : Args) (us : List Value) (vs : List V) (Q : VK) (E : XK), L2H.RoomH k A → Env0 P w K mg base A outer s H → BindsTo s fd args (ps.zip us) → Vals vs us → sp vs H Q E →
    codeAny (model P w) A (.call (.ref f) args) (CR CX0 outer P w H s Q E) s
structure CalW (P : Program) (w : World) (K : PySem.W.Frag) (mg : Str → Option Value) (base : Heap) (k : Nat) (x : Str) (ps : List Str) (sp : Sp) : Prop where
  ex : ∃ f fd, FnW P w K mg base k f fd ps sp ∧ mg x = some (.ref f) ∧ PySem.W.keepIn K (.ref f) = true ∧ Binds K fd ps []
/-- the context of its body -/
def cxW (P : Program) (w : World) (K : PySem.W.Frag) (mg : Str → Option Value) (base : Heap) (N : List Str) (qual : Str) (scope : Scope) (f : Addr) (cd : Value) (A : Around) (outer : List Env) (s : Shared) (H : Hp) (E : XK) : Cx :=
  { cxOf CX0 P w K mg base N qual scope f cd A outer s H E with calm := false }
theorem inv_startW {P : Program} {w : World} {K : PySem.W.Frag} {mg : Str → Option Value} {base : Heap} {N ps : List Str} {qual : Str} {scope : Scope} {f : Addr} {cd : Value} {A : Around} {outer : List Env} {s s1 : Shared} {H : Hp} {E : XK} {us : List Value} {vs : List V}
    (S : FnScope N ps scope) (e0 : Env0 P w K mg base A outer s H) (hl : vs.length = ps.length) (r : Vals vs us)
    (x : InCallC s s.heap.objs.size (bindL (envOfC qual scope s.heap.objs.size f cd).kindOf (ps.zip us) fun _ => none) (cellsFrom (s.heap.objs.size + 1) scope.names []) (bindC (envOfC qual scope s.heap.objs.size f cd).kindOf (ps.zip us) fun _ => none) s1) :
    Inv (cxW P w K mg base N qual scope f cd A outer s H E) [] (L2.start N vs) H s1 := by
  have hpl : ps.length ≤ N.length := by have := congrArg List.length S.pre; rw [List.length_take] at this; omega
  obtain ⟨h1, tk, rfl, hk⟩ := x.done
  have noA : ∀ b : Addr, b ∉ (cxW P w K mg base N qual scope f cd A outer s H E).ex := fun b z => absurd (show b ∈ ([] : List Addr) from z) (by simp)
  have at_ : ∀ (i : Nat) (v : V), (L2.start N vs)[i]? = some (some v) → i < vs.length ∧ vs[i]? = some v := fun i v h2 => by
    unfold L2.start at h2
    by_cases hi : i < vs.length
    · refine ⟨hi, ?_⟩
      rw [List.getElem?_append_left (by simpa using hi), List.getElem?_map] at h2
      cases e : vs[i]? with
      | none => rw [e] at h2; cases h2
      | some a => rw [e] at h2; cases h2; rfl
    · rw [List.getElem?_append_right (by simpa using hi), List.getElem?_replicate] at h2
      split at h2 <;> cases h2
  refine ⟨⟨e0.mod, S.kind, rfl, rfl, Nat.le_refl _, fun y z c h1 h2 => ?_, fun y hy => ?_, fun y c _ h => ?_, (fun z => Bool.noConfusion (show false = true from z)), Around.frames_deeper e0.frames, .inr ⟨rfl, rfl⟩, fun b z => absurd z (noA b), e0.bs, e0.bsz, fun b _ _ => noA b, fun b z => absurd z (noA b), e0.funs, e0.frf⟩,
    rfl, e0.bare, Un.kept hk, ⟨_, x.toInCall.ns, fun i y v h1 h2 h3 => ?_⟩, fun y c h => ⟨_, x.cell y c h⟩, e0.hok.fresh (Nat.le_refl _), fun y c h => ?_, fun q hq => ?_, e0.hok.kept hk, ?_⟩
  · exact name_of_addr x.apart (PySem.mem_of_lookup h1) (PySem.mem_of_lookup h2)
  · have hy : scope.names.lookup y = some .cell ∨ scope.names.lookup y = some .free := hy
    exact hy.elim cell_has fun z => absurd rfl (S.nofree _ (PySem.mem_of_lookup z))
  · exact Nat.le_of_lt (x.above y c (PySem.mem_of_lookup h))
  · obtain ⟨hi, ha⟩ := at_ i v h2
    obtain ⟨u, hu, rv⟩ := r.get ha
    have hp : ps[i]? = some y := by rw [← S.pre, List.getElem?_take_of_lt (by omega)]; exact h1
    have ndP : ps.Nodup := by rw [← S.pre]; exact S.nd.sublist (List.take_sublist _ _)
    refine ⟨u, rv, ?_⟩
    rcases S.par y (List.mem_of_getElem? hp) with k | k
    · exact .inl ⟨k, bindL_get ndP hp hu k⟩
    · obtain ⟨c, e⟩ := cell_has (n := s.heap.objs.size + 1) k
      refine .inr ⟨.inl k, c, e, ?_⟩
      have q := x.cell y c e
      rw [bindC_get ndP hp hu (by show scope.names.lookup y ≠ _; rw [k]; decide)] at q
      exact q
  · exact e0.hok.fresh (Nat.le_of_lt (x.above y c (PySem.mem_of_lookup h)))
  · exact absurd (show q ∈ ([] : List (Addr × Obj)) ++ [] from hq) (by simp)
  · unfold L2.start
    show _ = N.length
    rw [List.length_append, List.length_map, List.length_replicate]
    omega
theorem Fun.okW {P : Program} {w : World} {K : PySem.W.Frag} {mg : Str → Option Value} {base : Heap} {x qual : Str} {st : Stmt} {f : Addr} {fd : FuncData} {N ps : List Str} {k : Nat} {sp : Sp} (F : Fun K x qual st f fd) (S : FnScope N ps (defScope st)) (len : ∀ vs H Q E, sp vs H Q E → vs.length = ps.length)
    (hbody : ∀ (cdv : Value) (A : Around) (outer : List Env) (s : Shared) (H : Hp) (vs : List V) (Q : VK) (E : XK), L2H.RoomH k (A.deeper (envOfC qual (defScope st) s.heap.objs.size f cdv)) → sp vs H Q E →
      ∃ t, PSs (cxW P w K mg base N qual (defScope st) f cdv A outer s H E).nox (defBody st) t ∧ t { nx := fun _ H' => Q .non H', rt := Q } (L2.start N vs) H) : FnW P w K mg base (k + 1) f fd ps sp := by
  obtain ⟨oc, od, kV, doc, pm, an, cdv, ct, osl, rfl, lk, hcd⟩ := F.ex
  refine ⟨len, fun A outer s H args us vs Q E hr e0 hb r hsp => ?_⟩
  have hl := len _ _ _ _ hsp
  have KX : K.In s.heap := e0.mod.kin.keeps fun b o e => (e0.bs b o e).1
  have lim : s.heap.NoLimit := e0.mod.nolimit.keeps fun b o e => (e0.bs b o e).1
  have hkind : ∀ y ∈ ps.zip us, (defScope st).names.lookup y.1 = some .local ∨ ((defScope st).names.lookup y.1 = some .cell ∧ ((cellsFrom (s.heap.objs.size + 1) (defScope st).names []).lookup y.1).isSome = true) := fun ⟨n, v⟩ hy => by
    rcases S.par n (List.of_mem_zip hy).1 with q | q
    · exact .inl q
    · exact .inr ⟨q, PySem.W.cellsFrom_some _ _ _ (.inl q)⟩
  refine codeAny_call_function hr.depth (KX _ _ lk) rfl S.co S.gen rfl (PySem.W.codeRec_of KX hcd) (hb _ _ _ _ ?_)
  refine wpAny_newFunctionEnv_cells S.kind hkind fun env he s1 x => ?_
  subst he
  refine ⟨lim.keeps x.toInCall.keep, codeAny_func ?_⟩
  obtain ⟨t, ht, hq⟩ := hbody cdv A outer s H vs Q E (hr.deeper _) hsp
  have I : Inv (cxW P w K mg base N qual (defScope st) f cdv A outer s H E) [] (L2.start N vs) H s1 := inv_startW S e0 hl r x
  refine wpAny_mono (ht.nox.run [] s1 (L2.start N vs) H _ I hq) (fun fl s' hs => ?_) fun e s' hs => hs
  have fin : ∀ {σ' : L2.St} {H' : Hp} {v : V} {u : Value}, Inv (cxW P w K mg base N qual (defScope st) f cdv A outer s H E) [] σ' H' s' → RelV v u → Q v H' → CE outer P w H s Q u s' :=
    fun {σ' H' v u} J rv q => ⟨v, H', J.os, J.bare, J.base, J.hok, rv, q⟩
  cases fl with
  | ret u =>
    obtain ⟨v, σ', H', J, rv, q⟩ := hs
    exact fin J rv q
  | next =>
    obtain ⟨σ', H', J, q⟩ := hs
    exact fin (v := V.non) (u := Value.none) J rfl q
  | brk =>
    obtain ⟨_, _, _, q⟩ := hs
    exact False.elim q
  | cont =>
    obtain ⟨_, _, _, q⟩ := hs
    exact False.elim q
theorem pe_calW {X : Cx} {k j : Nat} {x p0 : Str} {sp : Sp} {e : Expr} {te : TE} {p pos : Pos} {a : Addr} {oe : Obj} {cls : Value} {d : Option Addr} {pn : List (Addr × Obj)} (c : CalW X.prog X.w X.K X.mg X.base k x [p0] sp) (hr : Room j X.A) (hg : Gl (X.suite a ((a, oe) :: pn)) x)
    (hz : Zc cls d oe) (hf : ∃ vs, oe.data = .fields vs) (hnb : X.base.get? a = none) (he : PE (X.suite a ((a, oe) :: pn)) e te)
    (hs : starEach [e] (X.suite a ((a, oe) :: pn)).env = (false, eval e (X.suite a ((a, oe) :: pn)).env) :: starEach [] (X.suite a ((a, oe) :: pn)).env := by rfl) (hdb : (x == ("__debug__" : Str)) = false := by decide) (hkj : k ≤ j := by decide) :
    PE (X.suite a ((a, oe) :: pn)) (.Call (.Name x p) [e] [] pos) (tCallE sp cls d a te) := by
  obtain ⟨f, fd, F, g, kp, bn⟩ := c.ex
  obtain ⟨vs, hv⟩ := hf
  refine ⟨fun pins s σ H Q I h => ?_⟩
  refine wpAny_Call_Name_kw (ld_glob I hg g ?_ hdb)
  refine PySem.W.callWith_K (h₀ := X.base) I.ok.mod.kin kp ?_ hs (by rfl)
  rw [hs]
  show wpAny _ _ (spliced ((false, eval e (X.suite a ((a, oe) :: pn)).env) :: backTo pos (starEach [] (X.suite a ((a, oe) :: pn)).env))) _ _ s
  refine Calls.spliced_cons (thn (he.run pins s σ H _ I h) fun u s1 hh => ?_)
  obtain ⟨v, H1, I1, r1, ev, q1⟩ := hh
  refine Calls.spliced_nil ⟨I1.kIn, ?_⟩
  subst ev
  obtain rfl : u = Value.ref a := r1
  obtain ⟨hget, hna, hnl, hnf, _⟩ := I1.pin (a, oe) (List.mem_append.mpr (.inl List.mem_cons_self))
  have hfz : ObjOk X.prog X.w (upd H1 a (.frz oe (EcO cls d a))) s1.heap a (.frz oe (EcO cls d a)) := ⟨hget, ⟨oe, vs, hget, hz, hv⟩, ⟨oe, hget⟩, fun _ _ ⟨o, v, q, r⟩ k => ⟨o, v, k o q, r⟩⟩
  have hok : HOk X.prog X.w (upd H1 a (.frz oe (EcO cls d a))) s1.heap := HOk.laidN I1.hok (fun _ _ z => z) hna hfz
  have env := I1.env0
  have env' : Env0 X.prog X.w X.K X.mg X.base (X.suite a ((a, oe) :: pn)).A (X.suite a ((a, oe) :: pn)).stack s1 (upd H1 a (.frz oe (EcO cls d a))) :=
    ⟨env.frames, env.mod, fun b o z => ⟨(env.bs b o z).1, by rw [upd_ne (fun q => by rw [q] at z; rw [hnb] at z; cases z)]; exact (env.bs b o z).2⟩, env.bsz, env.funs, fun b hb => by
      have n : b ≠ a := fun q => by
        rcases List.mem_cons.mp (I1.stkSub b hb) with z | z
        · exact hnl (by rw [← q]; exact z)
        · exact hnf (by rw [← q]; exact z)
      rw [upd_ne n]
      exact env.frf b hb, hok, env.bare⟩
  refine wpAny_call (codeAny_mono (F.run _ _ s1 _ ⟨[.ref a], []⟩ [.ref a] [.ref a] _ E0 (⟨(hr.mono hkj).dp, (hr.mono hkj).un⟩ : L2H.RoomH k (X.suite a ((a, oe) :: pn)).A) env' (by have := bn s1 [.ref a] I1.kIn rfl; exact this) (.cons rfl .nil) (q1 hna oe)) fun r s' hq => ?_)
  cases r with
  | error e => exact (show False from hq).elim
  | ok fl =>
    cases fl with
    | next => exact (show False from hq).elim
    | brk => exact (show False from hq).elim
    | cont => exact (show False from hq).elim
    | ret u =>
      obtain ⟨v, H', os, bare, un, hok', r, q⟩ := hq
      have hfr := un.frzs a oe _ upd_same
      have hget' : s'.heap.get? a = some oe := (hok' a _ hfr).1
      have nU : ∀ {b : Addr} {o : HO}, H1 b = some o → b ≠ a := fun e => ne_of_none e hna
      refine ⟨v, delH H' a, I1.call' (ch := []) os ⟨fun b o e n hb hx => ?_, fun b o e n hb hx => ?_, fun b o e n hx => ?_, fun b o e hx => un.there b o e hx, fun b xs e => ?_, fun b o u e => ?_, fun b ps e => ?_⟩ (fun b u e => ?_) bare (fun b z => nomatch z), r, q⟩
      · by_cases z : b = a
        · subst z
          rw [hget] at e
          rw [hget', e]
        · exact un.keep b o e (by rw [upd_ne z]; exact n) hb hx
      · by_cases z : b = a
        · subst z
          rw [hget] at e
          cases e
          exact ⟨_, hget'⟩
        · exact un.slot b o e (by rw [upd_ne z]; exact n) hb hx
      · by_cases z : b = a
        · rw [z]; exact delH_same
        · rw [delH_ne z]
          exact un.free b o e (by rw [upd_ne z]; exact n) hx
      · rw [delH_ne (nU e)]
        exact un.tups b xs (by rw [upd_ne (nU e)]; exact e)
      · rw [delH_ne (nU e)]
        exact un.frzs b o u (by rw [upd_ne (nU e)]; exact e)
      · obtain ⟨m, z⟩ := un.tbls b ps (by rw [upd_ne (nU e)]; exact e)
        exact ⟨m, by rw [delH_ne (nU e)]; exact z⟩
      · have hb : b ≠ a := fun z => by
          rw [z, delH_same] at e
          cases e
        rw [delH_ne hb] at e
        refine (hok' b u e).stay (fun c v _ z => z) (fun c z => ?_) fun c xs z => ?_
        · rw [delH_ne (fun y => by rw [y, hfr] at z; cases z)]
          exact z
        · rw [delH_ne (fun y => by rw [y, hfr] at z; cases z)]
          exact z
theorem x_callE {sp : Sp} {cls : Value} {d : Option Addr} {a : Addr} {te : TE} {σ : L2.St} {H : Hp} {Q : VK} (q : te σ H fun x H1 => x = .ref a ∧ (H1 a = none → ∀ oe, sp [.ref a] (upd H1 a (.frz oe (EcO cls d a))) (fun v H2 => Q v (delH H2 a)) E0)) : tCallE sp cls d a te σ H Q := q
/-! ### a def of more parameters called within an except suite, the first argument the caught exception -/
def tCallEA (sp : Sp) (cls : Value) (d : Option Addr) (a : Addr) (t : TA) : TE := fun σ H Q => t σ H fun vs H1 => ∃ r, vs = .ref a :: r ∧ (H1 a = none → ∀ oe, sp vs (upd H1 a (.frz oe (EcO cls d a))) (fun v H2 => Q v (delH H2 a)) E0)
theorem pe_calWA {X : Cx} {k j : Nat} {x : Str} {ps : List Str} {sp : Sp} {e : Expr} {es : List Expr} {ta : TA} {p pos : Pos} {a : Addr} {oe : Obj} {cls : Value} {d : Option Addr} {pn : List (Addr × Obj)} (c : CalW X.prog X.w X.K X.mg X.base k x ps sp) (hr : Room j X.A) (hg : Gl (X.suite a ((a, oe) :: pn)) x)
    (hz : Zc cls d oe) (hf : ∃ vs, oe.data = .fields vs) (hnb : X.base.get? a = none) (he : PA (X.suite a ((a, oe) :: pn)) (e :: es) ta)
    (hs : starEach (e :: es) (X.suite a ((a, oe) :: pn)).env = (false, eval e (X.suite a ((a, oe) :: pn)).env) :: starEach es (X.suite a ((a, oe) :: pn)).env := by rfl) (hpl : (backTo pos (starEach es (X.suite a ((a, oe) :: pn)).env)).any (·.1) = false := by rfl) (hdb : (x == ("__debug__" : Str)) = false := by decide) (hkj : k ≤ j := by decide) :
    PE (X.suite a ((a, oe) :: pn)) (.Call (.Name x p) (e :: es) [] pos) (tCallEA sp cls d a ta) := by
  obtain ⟨f, fd, F, g, kp, bn⟩ := c.ex
  obtain ⟨vs, hv⟩ := hf
  refine ⟨fun pins s σ H Q I h => ?_⟩
  refine wpAny_Call_Name_kw (ld_glob I hg g ?_ hdb)
  refine PySem.W.callWith_K (h₀ := X.base) I.ok.mod.kin kp (thn (he.run pos pins s σ H _ I h) fun us s1 hh => ?_) hs hpl
  obtain ⟨vv, H1, I1, r1, rest, ev, q1⟩ := hh
  refine ⟨I1.kIn, ?_⟩
  obtain ⟨hget, hna, hnl, hnf, _⟩ := I1.pin (a, oe) (List.mem_append.mpr (.inl List.mem_cons_self))
  have hfz : ObjOk X.prog X.w (upd H1 a (.frz oe (EcO cls d a))) s1.heap a (.frz oe (EcO cls d a)) := ⟨hget, ⟨oe, vs, hget, hz, hv⟩, ⟨oe, hget⟩, fun _ _ ⟨o, v, q, r⟩ k => ⟨o, v, k o q, r⟩⟩
  have hok : HOk X.prog X.w (upd H1 a (.frz oe (EcO cls d a))) s1.heap := HOk.laidN I1.hok (fun _ _ z => z) hna hfz
  have hlen : (us ++ ([] : List Value)).length = ps.length := by have := F.len _ _ _ _ (q1 hna oe); rw [r1.length] at this; simpa using this
  have env := I1.env0
  have env' : Env0 X.prog X.w X.K X.mg X.base (X.suite a ((a, oe) :: pn)).A (X.suite a ((a, oe) :: pn)).stack s1 (upd H1 a (.frz oe (EcO cls d a))) :=
    ⟨env.frames, env.mod, fun b o z => ⟨(env.bs b o z).1, by rw [upd_ne (fun q => by rw [q] at z; rw [hnb] at z; cases z)]; exact (env.bs b o z).2⟩, env.bsz, env.funs, fun b hb => by
      have n : b ≠ a := fun q => by
        rcases List.mem_cons.mp (I1.stkSub b hb) with z | z
        · exact hnl (by rw [← q]; exact z)
        · exact hnf (by rw [← q]; exact z)
      rw [upd_ne n]
      exact env.frf b hb, hok, env.bare⟩
  refine wpAny_call (codeAny_mono (F.run _ _ s1 _ ⟨us, []⟩ us vv _ E0 (⟨(hr.mono hkj).dp, (hr.mono hkj).un⟩ : L2H.RoomH k (X.suite a ((a, oe) :: pn)).A) env' (by have := bn s1 us I1.kIn hlen; simpa using this) r1 (q1 hna oe)) fun r s' hq => ?_)
  cases r with
  | error e => exact (show False from hq).elim
  | ok fl =>
    cases fl with
    | next => exact (show False from hq).elim
    | brk => exact (show False from hq).elim
    | cont => exact (show False from hq).elim
    | ret u =>
      obtain ⟨v, H', os, bare, un, hok', r, q⟩ := hq
      have hfr := un.frzs a oe _ upd_same
      have hget' : s'.heap.get? a = some oe := (hok' a _ hfr).1
      have nU : ∀ {b : Addr} {o : HO}, H1 b = some o → b ≠ a := fun e => ne_of_none e hna
      refine ⟨v, delH H' a, I1.call' (ch := []) os ⟨fun b o e n hb hx => ?_, fun b o e n hb hx => ?_, fun b o e n hx => ?_, fun b o e hx => un.there b o e hx, fun b xs e => ?_, fun b o u e => ?_, fun b ps e => ?_⟩ (fun b u e => ?_) bare (fun b z => nomatch z), r, q⟩
      · by_cases z : b = a
        · subst z
          rw [hget] at e
          rw [hget', e]
        · exact un.keep b o e (by rw [upd_ne z]; exact n) hb hx
      · by_cases z : b = a
        · subst z
          rw [hget] at e
          cases e
          exact ⟨_, hget'⟩
        · exact un.slot b o e (by rw [upd_ne z]; exact n) hb hx
      · by_cases z : b = a
        · rw [z]; exact delH_same
        · rw [delH_ne z]
          exact un.free b o e (by rw [upd_ne z]; exact n) hx
      · rw [delH_ne (nU e)]
        exact un.tups b xs (by rw [upd_ne (nU e)]; exact e)
      · rw [delH_ne (nU e)]
        exact un.frzs b o u (by rw [upd_ne (nU e)]; exact e)
      · obtain ⟨m, z⟩ := un.tbls b ps (by rw [upd_ne (nU e)]; exact e)
        exact ⟨m, by rw [delH_ne (nU e)]; exact z⟩
      · have hb : b ≠ a := fun z => by
          rw [z, delH_same] at e
          cases e
        rw [delH_ne hb] at e
        refine (hok' b u e).stay (fun c v _ z => z) (fun c z => ?_) fun c xs z => ?_
        · rw [delH_ne (fun y => by rw [y, hfr] at z; cases z)]
          exact z
        · rw [delH_ne (fun y => by rw [y, hfr] at z; cases z)]
          exact z
theorem x_callEA {sp : Sp} {cls : Value} {d : Option Addr} {a : Addr} {t : TA} {σ : L2.St} {H : Hp} {Q : VK} (q : t σ H fun vs H1 => ∃ r, vs = .ref a :: r ∧ (H1 a = none → ∀ oe, sp vs (upd H1 a (.frz oe (EcO cls d a))) (fun v H2 => Q v (delH H2 a)) E0)) : tCallEA sp cls d a t σ H Q := q
/-! ### lists of plain values, alike -/
def dat : V → PyData
  | .bl b => .bool b
  | .int i => .int i
  | .str z => .str z
  | _ => .none
def isDat : V → Bool
  | .non => true
  | .bl _ => true
  | .int _ => true
  | .str z => PyData.strOk z
  | _ => false
theorem dp_all {K : PySem.W.Frag} {H : Hp} : ∀ {xs : List V}, (∀ x ∈ xs, isDat x = true) → DpAll K H xs (xs.map dat)
  | [], _ => .nil
  | x :: r, h => by
    refine .cons ?_ (dp_all fun y hy => h y (List.mem_cons_of_mem _ hy))
    have hx := h x List.mem_cons_self
    cases x with
    | non => exact .non
    | bl b => exact .bl b
    | int i => exact .int i
    | str z => exact .str z
    | _ => cases hx
theorem dat_lay {x : V} (h : isDat x = true) : (dat x).canLay0 = true ∧ (dat x).depth = 0 := by
  cases x with
  | str z => exact ⟨h, rfl⟩
  | _ => exact ⟨rfl, rfl⟩
theorem dats_lay : ∀ xs : List V, (∀ x ∈ xs, isDat x = true) → PyData.canLayAll0 (xs.map dat) = true ∧ PyData.depthAll (xs.map dat) = 0
  | [], _ => ⟨rfl, rfl⟩
  | x :: r, h => by
    obtain ⟨h1, h2⟩ := dats_lay r fun y hy => h y (List.mem_cons_of_mem _ hy)
    obtain ⟨h3, h4⟩ := dat_lay (h x List.mem_cons_self)
    rw [List.map_cons]
    simp only [PyData.canLayAll0, PyData.depthAll, h1, h2, h3, h4]
    exact ⟨rfl, rfl⟩
theorem dats_shaped {xs : List V} (h : ∀ x ∈ xs, isDat x = true) : SeqAt.shaped (.list (xs.map dat)) = true := by
  obtain ⟨h1, h2⟩ := dats_lay xs h
  unfold SeqAt.shaped
  have e1 : PyData.canLay0 (.list (xs.map dat)) = true := h1
  have e2 : PyData.depth (.list (xs.map dat)) ≤ 64 := by
    simp only [PyData.depth, h2]
    decide
  rw [e1, decide_eq_true e2]
  rfl
theorem dats_eqv {xs : List V} (h : ∀ x ∈ xs, isDat x = true) : PyData.eqv (.list (xs.map dat)) (.list (xs.map dat)) = true := SeqAt.eqv_refl _ (dats_lay xs h).1
theorem x_neSame {K : PySem.W.Frag} {H : Hp} {Q : VK} {a b : Addr} {xs : List V} (h1 : SqL K H a xs) (h2 : SqL K H b xs) (hd : ∀ x ∈ xs, isDat x = true) (q : Q (.bl false) H) : rNeD K (.ref a) (.ref b) H Q :=
  ⟨_, _, .lst h1 (dp_all hd), .lst h2 (dp_all hd), dats_shaped hd, dats_shaped hd, by rw [dats_eqv hd]; exact q⟩
theorem x_eqSame {K : PySem.W.Frag} {H : Hp} {Q : VK} {a b : Addr} {xs : List V} (h1 : SqL K H a xs) (h2 : SqL K H b xs) (hd : ∀ x ∈ xs, isDat x = true) (q : Q (.bl true) H) : rEqD K (.ref a) (.ref b) H Q :=
  ⟨_, _, .lst h1 (dp_all hd), .lst h2 (dp_all hd), dats_shaped hd, dats_shaped hd, by rw [dats_eqv hd]; exact q⟩
/-! ### displays of dicts -/
theorem x_disp {trs : List (TE × TE)} {σ : L2.St} {H : Hp} {Q : VK} (h : ∀ p, H p = none → tPairs trs σ (upd H p (.dK [])) fun ps H2 => H2 p = some (.dK []) ∧ ∃ kvs : List (Key × V), ps = kvs.map (fun kv => (kV kv.1, kv.2)) ∧ kvs.length ≤ 15 ∧ Q (.ref p) (upd H2 p (.dK (mergeK [] kvs)))) : tDisp trs σ H Q := h
theorem x_prs {tk tv : TE} {r : List (TE × TE)} {σ : L2.St} {H : Hp} {R : List (V × V) → Hp → Prop} (h : tk σ H fun x H1 => tv σ H1 fun y H2 => tPairs r σ H2 fun ps H3 => R ((x, y) :: ps) H3) : tPairs ((tk, tv) :: r) σ H R := h
theorem x_prs0 {σ : L2.St} {H : Hp} {R : List (V × V) → Hp → Prop} (h : R [] H) : tPairs [] σ H R := h
theorem merge1 {z : Str} {v : V} : mergeK [] [((Sum.inr z : Key), v)] = [(Sum.inr z, v)] := rfl
theorem merge2 {z y : Str} {v u : V} (n : z ≠ y) : mergeK [] [((Sum.inr z : Key), v), (Sum.inr y, u)] = [(Sum.inr z, v), (Sum.inr y, u)] := by
  show putK [((Sum.inr z : Key), v)] (Sum.inr y) u = _
  unfold putK
  rw [if_neg (by simp [n])]
  rfl
theorem nm_on : NameS "on" := nameL_iff.mp (by decide +kernel)
theorem nm_off : NameS "off" := nameL_iff.mp (by decide +kernel)
theorem nm_h : NameS "h" := nameL_iff.mp (by decide +kernel)
theorem nm_t : NameS "t" := nameL_iff.mp (by decide +kernel)
/-! ### things, right or odd -/
/-- what stands in H' and not in H -/
def nw (H H' : Hp) : Hp := fun a => match H a with
  | none => H' a
  | some _ => none
theorem nw_at {H H' : Hp} {a : Addr} (h : H a = none) : nw H H' a = H' a := by
  unfold nw
  rw [h]
theorem nw_some {H H' : Hp} {a : Addr} {o : HO} (h : nw H H' a = some o) : H a = none ∧ H' a = some o := by
  unfold nw at h
  cases e : H a with
  | none => rw [e] at h; exact ⟨rfl, h⟩
  | some u => rw [e] at h; cases h
/-- H1's own places are H's, and what is new in H1' stands in H'' -/
theorem nw_same {H H1 H' H'' : Hp} (h1 : ∀ a, H1 a = none → H a = none) (h2 : ∀ a o, H1 a = none → H' a = some o → H'' a = some o) : L2.Same (nw H1 H') (nw H H'') := fun a o h => by
  obtain ⟨e1, e2⟩ := nw_some h
  rw [nw_at (h1 a e1)]
  exact h2 a o e1 e2
theorem pool_some {H : Hp} {p : Addr} (h : PoolAt H p) : H p ≠ none := by
  exact fun z => h.ne z rfl
/-! ### k10: a thing -/
mutual
theorem dp_same {K : PySem.W.Frag} {H H' : Hp} (s : L2.Same H H') : ∀ {v : V} {d : PyData}, Dp K H v d → Dp K H' v d
  | _, _, .non => .non
  | _, _, .bl b => .bl b
  | _, _, .int i => .int i
  | _, _, .str x => .str x
  | _, _, .lst h hs => .lst (s.seq h) (dpAll_same s hs)
  | _, _, .tup h hs => .tup (same_t s h) (dpAll_same s hs)
theorem dpAll_same {K : PySem.W.Frag} {H H' : Hp} (s : L2.Same H H') : ∀ {vs : List V} {ds : List PyData}, DpAll K H vs ds → DpAll K H' vs ds
  | _, _, .nil => .nil
  | _, _, .cons h hs => .cons (dp_same s h) (dpAll_same s hs)
end
/-- something that is data, or a small dict -/
inductive Th10 (K : PySem.W.Frag) (H : Hp) : V → Prop where
  | dat {x : V} {d : PyData} (h : Dp K H x d) (hs : SeqAt.shaped d = true) : Th10 K H x
  | d0 {a : Addr} (h : H a = some (.dK [])) : Th10 K H (.ref a)
  | d1 {a : Addr} (h : H a = some (.dK [(Sum.inr "a", .int 1)])) : Th10 K H (.ref a)
theorem Th10.same {K : PySem.W.Frag} {H H' : Hp} {x : V} (s : L2.Same H H') (h : Th10 K H x) : Th10 K H' x := by
  cases h with
  | dat h hs => exact .dat (dp_same s h) hs
  | d0 h => exact .d0 (s _ _ h)
  | d1 h => exact .d1 (s _ _ h)
def spThing10 (K : PySem.W.Frag) : Sp := fun vs H Q _ => ∃ (p : Addr), vs = [.ref p] ∧ PoolAt H p ∧ ∀ H' x, But p H H' → PoolAt H' p → Th10 K (nw H H') x → Q x H'
section
variable {P : Program} {w : World} {K : PySem.W.Frag} {mg : Str → Option Value} {base : Heap}
theorem ok_l_thing {f : Addr} {fd : FuncData} (F : Fun K "_law_thing" "_law_thing" s_l_thing f fd) (C_draw : Cal P w K mg base 1 "_law_draw" ["_law_pool_here", "_law_many"] spDraw) : FnOk P w K mg base CX0 2 f fd ["_law_pool_here"] (spThing10 K) := by
  refine F.ok sc_l_thing (fun vs H Q E h => ?_) (fun cdv A outer s H vs Q E hr h => ?_)
  · obtain ⟨_, rfl, _⟩ := h
    rfl
  · obtain ⟨p, rfl, hp, q⟩ := h
    refine ⟨_, (pss_cons (ps_set (i := 1) sc_l_thing.nd rfl (Or.inl rfl) (pe_lst (pa_cons pe_non (pa_cons pe_bl (pa_cons pe_bl (pa_cons pe_int (pa_cons (pe_un un_neg pe_int) (pa_cons pe_int (pa_cons pe_int (pa_cons pe_int (pa_cons (pe_op op_powW pe_int pe_int) (pa_cons pe_str (pa_cons pe_str (pa_cons pe_str (pa_cons pe_str (pa_cons pe_str (pa_cons pe_str (pa_cons pe_str (pa_cons pe_str (pa_cons (pe_tup pa_nil) (pa_cons (pe_lst pa_nil) (pa_cons pe_dnewK pa_nil))))))))))))))))))))))
      (pss_cons (ps_set (i := 1) sc_l_thing.nd rfl (Or.inl rfl) (pe_op op_cat (pv 1) (pe_lst (pa_cons (pe_tup (pa_cons pe_str pa_nil)) (pa_cons (pe_lst (pa_cons pe_str pa_nil)) (pa_cons (pe_tup (pa_cons pe_str (pa_cons pe_int pa_nil))) (pa_cons (pe_disp (pps_cons pe_str pe_int pps_nil) (by rfl) (by rfl) (fun z => by cases z) (by decide)) (pa_cons pe_str pa_nil))))))))
      (pss_one (ps_ret (pe_ix ix_list (pv 1) (pe_cal C_draw (hr.mono (by decide)) (by rfl) (pa_cons (pv 0) (pa_cons pe_int pa_nil))) (fun _ _ => rfl)))))), ?_⟩
    walk_at "go"
    refine ⟨sz_le (by simp), fun T1 n1 => ?_⟩
    have s1 : L2.Same H (upd H T1 (.tup [])) := same_new n1
    have t1 : (upd H T1 (.tup [])) T1 = some (.tup []) := upd_same
    generalize upd H T1 (.tup []) = H1 at s1 t1
    walk_at "go"
    refine ⟨sz_le (by simp), fun L1 n2 => ?_⟩
    have s2 : L2.Same H1 (upd H1 L1 (.lst [])) := same_new n2
    have t2 : (upd H1 L1 (.lst [])) L1 = some (.lst []) := upd_same
    generalize upd H1 L1 (.lst []) = H2 at s2 t2
    walk_at "go"
    intro D1 n3
    have s3 : L2.Same H2 (upd H2 D1 (.dK [])) := same_new n3
    have t3 : (upd H2 D1 (.dK [])) D1 = some (.dK []) := upd_same
    generalize upd H2 D1 (.dK []) = H3 at s3 t3
    walk_at "go"
    refine ⟨sz_le (by simp), fun A1 n4 => ?_⟩
    have s4 := same_new (o := .lst (V.non :: V.bl true :: V.bl false :: V.int 0 :: V.int (-1) :: V.int 1 :: V.int 5 :: V.int 10 :: V.int (10 ^ Int.toNat 29) :: V.str "" :: V.str "A" :: V.str "a-" :: V.str "1a" :: V.str "abcdefghi" :: V.str "a b" :: V.str "b\n" :: V.str "*" :: [V.ref T1, V.ref L1, V.ref D1])) n4
    have t4 : (upd H3 A1 (.lst (V.non :: V.bl true :: V.bl false :: V.int 0 :: V.int (-1) :: V.int 1 :: V.int 5 :: V.int 10 :: V.int (10 ^ Int.toNat 29) :: V.str "" :: V.str "A" :: V.str "a-" :: V.str "1a" :: V.str "abcdefghi" :: V.str "a b" :: V.str "b\n" :: V.str "*" :: [V.ref T1, V.ref L1, V.ref D1]))) A1 = _ := upd_same
    generalize upd H3 A1 (.lst (V.non :: V.bl true :: V.bl false :: V.int 0 :: V.int (-1) :: V.int 1 :: V.int 5 :: V.int 10 :: V.int (10 ^ Int.toNat 29) :: V.str "" :: V.str "A" :: V.str "a-" :: V.str "1a" :: V.str "abcdefghi" :: V.str "a b" :: V.str "b\n" :: V.str "*" :: [V.ref T1, V.ref L1, V.ref D1])) = H4 at s4 t4
    walk_at "go"
    refine ⟨sz_le (by simp), fun T5 n5 => ?_⟩
    have s5 : L2.Same H4 (upd H4 T5 (.tup [V.str "end"])) := same_new n5
    have t5 : (upd H4 T5 (.tup [V.str "end"])) T5 = some (.tup [V.str "end"]) := upd_same
    generalize upd H4 T5 (.tup [V.str "end"]) = H5 at s5 t5
    walk_at "go"
    refine ⟨sz_le (by simp), fun L6 n6 => ?_⟩
    have s6 : L2.Same H5 (upd H5 L6 (.lst [V.str "a"])) := same_new n6
    have t6 : (upd H5 L6 (.lst [V.str "a"])) L6 = some (.lst [V.str "a"]) := upd_same
    generalize upd H5 L6 (.lst [V.str "a"]) = H6 at s6 t6
    walk_at "go"
    refine ⟨sz_le (by simp), fun T7 n7 => ?_⟩
    have s7 : L2.Same H6 (upd H6 T7 (.tup [V.str "a", V.int 1])) := same_new n7
    have t7 : (upd H6 T7 (.tup [V.str "a", V.int 1])) T7 = some (.tup [V.str "a", V.int 1]) := upd_same
    generalize upd H6 T7 (.tup [V.str "a", V.int 1]) = H7 at s7 t7
    walk_at "go"
    refine x_disp fun D8 n8 => x_prs ?_
    walk_at "go"
    refine x_prs0 ⟨upd_same, [(Sum.inr "a", .int 1)], rfl, by simp, ?_⟩
    rw [merge1, upd_upd]
    have s8 : L2.Same H7 (upd H7 D8 (.dK [(Sum.inr "a", .int 1)])) := same_new n8
    have t8 : (upd H7 D8 (.dK [(Sum.inr "a", .int 1)])) D8 = some (.dK [(Sum.inr "a", .int 1)]) := upd_same
    generalize upd H7 D8 (.dK [(Sum.inr "a", .int 1)]) = H8 at s8 t8
    walk_at "go"
    refine ⟨sz_le (by simp), fun A2 n9 => ?_⟩
    have s9 : L2.Same H8 (upd H8 A2 (.lst [V.ref T5, V.ref L6, V.ref T7, V.ref D8, V.str "aB"])) := same_new n9
    have t9 : (upd H8 A2 (.lst [V.ref T5, V.ref L6, V.ref T7, V.ref D8, V.str "aB"])) A2 = some (.lst [V.ref T5, V.ref L6, V.ref T7, V.ref D8, V.str "aB"]) := upd_same
    generalize upd H8 A2 (.lst [V.ref T5, V.ref L6, V.ref T7, V.ref D8, V.str "aB"]) = H9 at s9 t9
    have s49 : L2.Same H4 H9 := s5.trans (s6.trans (s7.trans (s8.trans s9)))
    refine ⟨A1, A2, _, _, rfl, rfl, s49 _ _ t4, t9, sz_le (by simp), fun R n10 => ?_⟩
    have s10 : L2.Same H9 (upd H9 R (.lst ([V.non, V.bl true, V.bl false, V.int 0, V.int (-1), V.int 1, V.int 5, V.int 10, V.int (10 ^ Int.toNat 29), V.str "", V.str "A", V.str "a-", V.str "1a", V.str "abcdefghi", V.str "a b", V.str "b\n", V.str "*", V.ref T1, V.ref L1, V.ref D1] ++ [V.ref T5, V.ref L6, V.ref T7, V.ref D8, V.str "aB"]))) := same_new n10
    have t10 : (upd H9 R (.lst ([V.non, V.bl true, V.bl false, V.int 0, V.int (-1), V.int 1, V.int 5, V.int 10, V.int (10 ^ Int.toNat 29), V.str "", V.str "A", V.str "a-", V.str "1a", V.str "abcdefghi", V.str "a b", V.str "b\n", V.str "*", V.ref T1, V.ref L1, V.ref D1] ++ [V.ref T5, V.ref L6, V.ref T7, V.ref D8, V.str "aB"]))) R = some (.lst ([V.non, V.bl true, V.bl false, V.int 0, V.int (-1), V.int 1, V.int 5, V.int 10, V.int (10 ^ Int.toNat 29), V.str "", V.str "A", V.str "a-", V.str "1a", V.str "abcdefghi", V.str "a b", V.str "b\n", V.str "*", V.ref T1, V.ref L1, V.ref D1] ++ [V.ref T5, V.ref L6, V.ref T7, V.ref D8, V.str "aB"])) := upd_same
    generalize upd H9 R (.lst ([V.non, V.bl true, V.bl false, V.int 0, V.int (-1), V.int 1, V.int 5, V.int 10, V.int (10 ^ Int.toNat 29), V.str "", V.str "A", V.str "a-", V.str "1a", V.str "abcdefghi", V.str "a b", V.str "b\n", V.str "*", V.ref T1, V.ref L1, V.ref D1] ++ [V.ref T5, V.ref L6, V.ref T7, V.ref D8, V.str "aB"])) = Hq at s10 t10
    have sA : L2.Same H4 Hq := s49.trans s10
    have sB : L2.Same H Hq := s1.trans (s2.trans (s3.trans (s4.trans sA)))
    have npR : R ≠ p := fun e => by
      obtain ⟨ns, e2, _⟩ := hp
      have := (s1.trans (s2.trans (s3.trans (s4.trans s49)))).free n10
      rw [e, e2] at this
      cases this
    have hpq : PoolAt Hq p := by
      obtain ⟨ns, e, ok⟩ := hp
      exact ⟨ns, sB _ _ e, ok⟩
    have f1 : nw H Hq T1 = some (.tup []) := (nw_at n1).trans ((s2.trans (s3.trans (s4.trans sA))) _ _ t1)
    have f2 : nw H Hq L1 = some (.lst []) := (nw_at (s1.free n2)).trans ((s3.trans (s4.trans sA)) _ _ t2)
    have f3 : nw H Hq D1 = some (.dK []) := (nw_at ((s1.trans s2).free n3)).trans ((s4.trans sA) _ _ t3)
    have s14 := s1.trans (s2.trans (s3.trans s4))
    have f5 : nw H Hq T5 = some (.tup [V.str "end"]) := (nw_at (s14.free n5)).trans ((s6.trans (s7.trans (s8.trans (s9.trans s10)))) _ _ t5)
    have f6 : nw H Hq L6 = some (.lst [V.str "a"]) := (nw_at ((s14.trans s5).free n6)).trans ((s7.trans (s8.trans (s9.trans s10))) _ _ t6)
    have f7 : nw H Hq T7 = some (.tup [V.str "a", V.int 1]) := (nw_at ((s14.trans (s5.trans s6)).free n7)).trans ((s8.trans (s9.trans s10)) _ _ t7)
    have f8 : nw H Hq D8 = some (.dK [(Sum.inr "a", .int 1)]) := (nw_at ((s14.trans (s5.trans (s6.trans s7))).free n8)).trans ((s9.trans s10) _ _ t8)
    have all : ∀ y ∈ ([V.non, V.bl true, V.bl false, V.int 0, V.int (-1), V.int 1, V.int 5, V.int 10, V.int (10 ^ Int.toNat 29), V.str "", V.str "A", V.str "a-", V.str "1a", V.str "abcdefghi", V.str "a b", V.str "b\n", V.str "*", V.ref T1, V.ref L1, V.ref D1] ++ [V.ref T5, V.ref L6, V.ref T7, V.ref D8, V.str "aB"] : List V), Th10 K (nw H Hq) y := by
      intro y hy
      simp only [List.cons_append, List.nil_append, List.mem_cons, List.not_mem_nil, or_false] at hy
      rcases hy with rfl | rfl | rfl | rfl | rfl | rfl | rfl | rfl | rfl | rfl | rfl | rfl | rfl | rfl | rfl | rfl | rfl | rfl | rfl | rfl | rfl | rfl | rfl | rfl | rfl
      all_goals first
        | exact .dat .non (by decide +kernel)
        | exact .dat (.bl _) (by decide +kernel)
        | exact .dat (.int _) (by decide +kernel)
        | exact .dat (.str _) (by decide +kernel)
        | exact .dat (.tup (SqT.of f1) .nil) (by decide +kernel)
        | exact .dat (.lst (SqL.of f2) .nil) (by decide +kernel)
        | exact .d0 f3
        | exact .dat (.tup (SqT.of f5) (.cons (.str _) .nil)) (by decide +kernel)
        | exact .dat (.lst (SqL.of f6) (.cons (.str _) .nil)) (by decide +kernel)
        | exact .dat (.tup (SqT.of f7) (.cons (.str _) (.cons (.int _) .nil))) (by decide +kernel)
        | exact .d1 f8
    walk_at "go"
    refine ⟨p, 25, rfl, hpq, by decide, by decide, fun Hz r bz pz r0 r1 => ?_⟩
    obtain ⟨n, rfl⟩ : ∃ n : Nat, r = n := ⟨r.toNat, by omega⟩
    have hn : n < 25 := by omega
    have hR := bz _ _ t10 npR
    obtain ⟨y, hy⟩ : ∃ y, ([V.non, V.bl true, V.bl false, V.int 0, V.int (-1), V.int 1, V.int 5, V.int 10, V.int (10 ^ Int.toNat 29), V.str "", V.str "A", V.str "a-", V.str "1a", V.str "abcdefghi", V.str "a b", V.str "b\n", V.str "*", V.ref T1, V.ref L1, V.ref D1] ++ [V.ref T5, V.ref L6, V.ref T7, V.ref D8, V.str "aB"] : List V)[n]? = some y := ⟨_, List.getElem?_eq_getElem (by simpa using hn)⟩
    refine x_ixl n (SqL.of hR) rfl hy ?_
    refine q Hz y (fun b o e n => bz b o (sB b o e) n) pz ((all y (List.mem_of_getElem? hy)).same (nw_same (fun _ h => h) fun a o e1 e2 => bz a o e2 fun e => ?_))
    rw [e] at e1
    exact pool_some hp e1
end
/-! ### k10: exceptions as values (printed by gen10.py) -/
theorem x_catL {H : Hp} {Q : VK} {a b : Addr} {xs ys : List V} (ha : H a = some (.lst xs)) (hb : H b = some (.lst ys)) (hl : xs.length + ys.length ≤ 10000) (q : ∀ p, H p = none → Q (.ref p) (upd H p (.lst (xs ++ ys)))) : rCat (.ref a) (.ref b) H Q :=
  ⟨a, b, xs, ys, rfl, rfl, ha, hb, Nat.le_trans hl (by decide), q⟩
theorem x_inLi {K : PySem.W.Frag} {H : Hp} {Q : VK} {p : Addr} {ws : List Int} {z : Int} (h : SqL K H p (ws.map V.int)) (q : Q (.bl (decide (z ∈ ws))) H) : rIn K false (.int z) (.ref p) H Q :=
  ⟨p, _, rfl, .inl h, rfl, flat_ints ws, by rw [inV_ints]; exact q⟩
def fldN : Nat → Str
  | 0 => "part"
  | 1 => "name"
  | 2 => "name"
  | 3 => "index"
  | 4 => "most"
  | 5 => "index"
  | 6 => "line"
  | _ => "name"
/-- an exception of the k-th class stands at a; the first eight hold x -/
structure Ex10 (cs : List Addr) (H : Hp) (k : Nat) (x : V) (a D : Addr) (d : Option Addr) : Prop where
  cl : cs[k]? = some D
  ec : IsEc H a (.ref D) d
  fs : ∀ dd, d = some dd → ∃ fs, H dd = some (.xd fs)
  fl : k < 8 → ∃ dd, d = some dd ∧ H dd = some (.xd [(fldN k, x)])
theorem Ex10.same {cs : List Addr} {H H' : Hp} {k : Nat} {x : V} {a D : Addr} {d : Option Addr} (s : L2.Same H H') (e : Ex10 cs H k x a D d) : Ex10 cs H' k x a D d :=
  ⟨e.cl, e.ec.same s, fun dd z => (e.fs dd z).elim fun fs h => ⟨fs, s _ _ h⟩, fun z => (e.fl z).elim fun dd h => ⟨dd, h.1, s _ _ h.2⟩⟩
def spMade (cs : List Addr) : Sp := fun vs H Q _ => ∃ (k : Nat) (x : V), vs = [.int k, x] ∧ k < 36 ∧ ∀ H' a D d, L2.Same H H' → Ex10 cs H' k x a D d → Q (.ref a) H'
def flagsV (k : Nat) : List V := (List.range 36).map fun j => V.bl (decide (k = j))
def spFlags (K : PySem.W.Frag) (cs : List Addr) : Sp := fun vs H Q _ => ∃ (k : Nat) (x : V) (a D : Addr) (d : Option Addr), vs = [.ref a] ∧ Ex10 cs H k x a D d ∧ ExcC K D ∧ ∀ H' p, L2.Same H H' → H p = none → H' p = some (.lst (flagsV k)) → Q (.ref p) H'
def spKept (cs : List Addr) : Sp := fun vs H Q _ => ∃ (k : Nat) (x : V) (a D : Addr) (d : Option Addr), vs = [.ref a, .int k] ∧ Ex10 cs H k x a D d ∧ k < 8 ∧ ∀ H', L2.Same H H' → Q x H'
section
variable {P : Program} {w : World} {K : PySem.W.Frag} {mg : Str → Option Value} {base : Heap} {X00 X01 X02 X03 X04 X05 X06 X07 X08 X09 X10 X11 X12 X13 X14 X15 X16 X17 X18 X19 X20 X21 X22 X23 X24 X25 X26 X27 X28 X29 X30 X31 X32 X33 X34 X35 CO : Addr}
theorem ok_l_made {f : Addr} {fd : FuncData} (F : Fun K "_law_made" "_law_made" s_l_made f fd) (E_BadWork : ExcF P K mg "BadWork" "part" X00) (E_NoStand : ExcF P K mg "NoStand" "name" X01) (E_NoStep : ExcF P K mg "NoStep" "name" X02) (E_BadRun : ExcF P K mg "BadRun" "index" X03) (E_TooMany : ExcF P K mg "TooMany" "most" X04) (E_BadLog : ExcF P K mg "BadLog" "index" X05) (E_BadText : ExcF P K mg "BadText" "line" X06) (E_NoName : ExcF P K mg "NoName" "name" X07) (E_BadLot : Exc0 K mg "BadLot" X08) (E_BadWish : Exc0 K mg "BadWish" X09) (E_Unsuited : Exc0 K mg "Unsuited" X10) (E_BadNumber : Exc0 K mg "BadNumber" X11) (E_NoChance : Exc0 K mg "NoChance" X12) (E_BadFraction : Exc0 K mg "BadFraction" X13) (E_BadRing : Exc0 K mg "BadRing" X14) (E_BadLooks : Exc0 K mg "BadLooks" X15) (E_BadKnowledge : Exc0 K mg "BadKnowledge" X16) (E_BadLook : Exc0 K mg "BadLook" X17) (E_BadHand : Exc0 K mg "BadHand" X18) (E_NoRun : Exc0 K mg "NoRun" X19) (E_BadProgram : Exc0 K mg "BadProgram" X20) (E_BadPrograms : Exc0 K mg "BadPrograms" X21) (E_TooLarge : Exc0 K mg "TooLarge" X22) (E_Ringed : Exc0 K mg "Ringed" X23) (E_BadBook : Exc0 K mg "BadBook" X24) (E_BadPrices : Exc0 K mg "BadPrices" X25) (E_BadFalls : Exc0 K mg "BadFalls" X26) (E_NoEnd : Exc0 K mg "NoEnd" X27) (E_LastStep : Exc0 K mg "LastStep" X28) (E_NoHand : Exc0 K mg "NoHand" X29) (E_BadName : Exc0 K mg "BadName" X30) (E_BadOrder : Exc0 K mg "BadOrder" X31) (E_NotNow : Exc0 K mg "NotNow" X32) (E_NoLine : Exc0 K mg "NoLine" X33) (E_NoBench : Exc0 K mg "NoBench" X34) (E_NothingDone : Exc0 K mg "NothingDone" X35) :
    FnOk P w K mg base CX0 2 f fd ["_law_k", "_law_thing_here"] (spMade [X00, X01, X02, X03, X04, X05, X06, X07, X08, X09, X10, X11, X12, X13, X14, X15, X16, X17, X18, X19, X20, X21, X22, X23, X24, X25, X26, X27, X28, X29, X30, X31, X32, X33, X34, X35]) := by
  refine F.ok sc_l_made (fun vs H Q E h => ?_) (fun cdv A outer s H vs Q E hr h => ?_)
  · obtain ⟨_, _, rfl, _⟩ := h
    rfl
  · obtain ⟨k, x, rfl, k36, q⟩ := h
    refine ⟨_, (pss_cons (ps_if (pt_cmpR op_lt (pv 0) pe_int (nomark _))
      (pss_one (ps_ret (pe_ix ix_list (pe_lst (pa_cons (pe_mkV (pmk_sup E_BadWork hr (pa_cons (pv 1) pa_nil) (by rfl))) (pa_cons (pe_mkV (pmk_sup E_NoStand hr (pa_cons (pv 1) pa_nil) (by rfl))) (pa_cons (pe_mkV (pmk_sup E_NoStep hr (pa_cons (pv 1) pa_nil) (by rfl))) (pa_cons (pe_mkV (pmk_sup E_BadRun hr (pa_cons (pv 1) pa_nil) (by rfl))) (pa_cons (pe_mkV (pmk_sup E_TooMany hr (pa_cons (pv 1) pa_nil) (by rfl))) (pa_cons (pe_mkV (pmk_sup E_BadLog hr (pa_cons (pv 1) pa_nil) (by rfl))) (pa_cons (pe_mkV (pmk_sup E_BadText hr (pa_cons (pv 1) pa_nil) (by rfl))) (pa_cons (pe_mkV (pmk_sup E_NoName hr (pa_cons (pv 1) pa_nil) (by rfl))) pa_nil))))))))) (pv 0) (fun _ _ => rfl))))
      pss_nil)
      (pss_cons (ps_if (pt_cmpR op_lt (pv 0) pe_int (nomark _))
      (pss_one (ps_ret (pe_ix ix_list (pe_lst (pa_cons (pe_mkV (pmk_own0 E_BadLot (by rfl))) (pa_cons (pe_mkV (pmk_own0 E_BadWish (by rfl))) (pa_cons (pe_mkV (pmk_own0 E_Unsuited (by rfl))) (pa_cons (pe_mkV (pmk_own0 E_BadNumber (by rfl))) (pa_cons (pe_mkV (pmk_own0 E_NoChance (by rfl))) (pa_cons (pe_mkV (pmk_own0 E_BadFraction (by rfl))) (pa_cons (pe_mkV (pmk_own0 E_BadRing (by rfl))) (pa_cons (pe_mkV (pmk_own0 E_BadLooks (by rfl))) (pa_cons (pe_mkV (pmk_own0 E_BadKnowledge (by rfl))) (pa_cons (pe_mkV (pmk_own0 E_BadLook (by rfl))) (pa_cons (pe_mkV (pmk_own0 E_BadHand (by rfl))) (pa_cons (pe_mkV (pmk_own0 E_NoRun (by rfl))) pa_nil))))))))))))) (pe_op op_sub (pv 0) pe_int) (fun _ _ => rfl))))
      pss_nil)
      (pss_one (ps_ret (pe_ix ix_list (pe_lst (pa_cons (pe_mkV (pmk_own0 E_BadProgram (by rfl))) (pa_cons (pe_mkV (pmk_own0 E_BadPrograms (by rfl))) (pa_cons (pe_mkV (pmk_own0 E_TooLarge (by rfl))) (pa_cons (pe_mkV (pmk_own0 E_Ringed (by rfl))) (pa_cons (pe_mkV (pmk_own0 E_BadBook (by rfl))) (pa_cons (pe_mkV (pmk_own0 E_BadPrices (by rfl))) (pa_cons (pe_mkV (pmk_own0 E_BadFalls (by rfl))) (pa_cons (pe_mkV (pmk_own0 E_NoEnd (by rfl))) (pa_cons (pe_mkV (pmk_own0 E_LastStep (by rfl))) (pa_cons (pe_mkV (pmk_own0 E_NoHand (by rfl))) (pa_cons (pe_mkV (pmk_own0 E_BadName (by rfl))) (pa_cons (pe_mkV (pmk_own0 E_BadOrder (by rfl))) (pa_cons (pe_mkV (pmk_own0 E_NotNow (by rfl))) (pa_cons (pe_mkV (pmk_own0 E_NoLine (by rfl))) (pa_cons (pe_mkV (pmk_own0 E_NoBench (by rfl))) (pa_cons (pe_mkV (pmk_own0 E_NothingDone (by rfl))) pa_nil))))))))))))))))) (pe_op op_sub (pv 0) pe_int) (fun _ _ => rfl)))))), ?_⟩
    walk_at "go"
    refine x_dec (fun h8 => ?_) (fun h8 => ?_)
    · skip
      walk_at "go"
      refine x_mkVS ?_
      walk_at "go"
      refine ⟨_, rfl, fun d0 n0 a0 m0 o0 => ?_⟩
      have u0 : L2.Same H (upd (upd H d0 (.xd [("part", x)])) a0 (.frz o0 (EcO (.ref X00) (some d0) a0))) := (same_new n0).trans (same_new m0)
      have e0 : Ex10 [X00, X01, X02, X03, X04, X05, X06, X07, X08, X09, X10, X11, X12, X13, X14, X15, X16, X17, X18, X19, X20, X21, X22, X23, X24, X25, X26, X27, X28, X29, X30, X31, X32, X33, X34, X35] (upd (upd H d0 (.xd [("part", x)])) a0 (.frz o0 (EcO (.ref X00) (some d0) a0))) 0 x a0 X00 (some d0) := ⟨rfl, ⟨o0, upd_same⟩, (fun dd z => by cases z; exact ⟨_, (same_new m0) _ _ upd_same⟩), fun _ => ⟨d0, rfl, (same_new m0) _ _ upd_same⟩⟩
      generalize (upd (upd H d0 (.xd [("part", x)])) a0 (.frz o0 (EcO (.ref X00) (some d0) a0))) = J0 at u0 e0 ⊢
      walk_at "go"
      refine x_mkVS ?_
      walk_at "go"
      refine ⟨_, rfl, fun d1 n1 a1 m1 o1 => ?_⟩
      have u1 : L2.Same J0 (upd (upd J0 d1 (.xd [("name", x)])) a1 (.frz o1 (EcO (.ref X01) (some d1) a1))) := (same_new n1).trans (same_new m1)
      have e1 : Ex10 [X00, X01, X02, X03, X04, X05, X06, X07, X08, X09, X10, X11, X12, X13, X14, X15, X16, X17, X18, X19, X20, X21, X22, X23, X24, X25, X26, X27, X28, X29, X30, X31, X32, X33, X34, X35] (upd (upd J0 d1 (.xd [("name", x)])) a1 (.frz o1 (EcO (.ref X01) (some d1) a1))) 1 x a1 X01 (some d1) := ⟨rfl, ⟨o1, upd_same⟩, (fun dd z => by cases z; exact ⟨_, (same_new m1) _ _ upd_same⟩), fun _ => ⟨d1, rfl, (same_new m1) _ _ upd_same⟩⟩
      generalize (upd (upd J0 d1 (.xd [("name", x)])) a1 (.frz o1 (EcO (.ref X01) (some d1) a1))) = J1 at u1 e1 ⊢
      walk_at "go"
      refine x_mkVS ?_
      walk_at "go"
      refine ⟨_, rfl, fun d2 n2 a2 m2 o2 => ?_⟩
      have u2 : L2.Same J1 (upd (upd J1 d2 (.xd [("name", x)])) a2 (.frz o2 (EcO (.ref X02) (some d2) a2))) := (same_new n2).trans (same_new m2)
      have e2 : Ex10 [X00, X01, X02, X03, X04, X05, X06, X07, X08, X09, X10, X11, X12, X13, X14, X15, X16, X17, X18, X19, X20, X21, X22, X23, X24, X25, X26, X27, X28, X29, X30, X31, X32, X33, X34, X35] (upd (upd J1 d2 (.xd [("name", x)])) a2 (.frz o2 (EcO (.ref X02) (some d2) a2))) 2 x a2 X02 (some d2) := ⟨rfl, ⟨o2, upd_same⟩, (fun dd z => by cases z; exact ⟨_, (same_new m2) _ _ upd_same⟩), fun _ => ⟨d2, rfl, (same_new m2) _ _ upd_same⟩⟩
      generalize (upd (upd J1 d2 (.xd [("name", x)])) a2 (.frz o2 (EcO (.ref X02) (some d2) a2))) = J2 at u2 e2 ⊢
      walk_at "go"
      refine x_mkVS ?_
      walk_at "go"
      refine ⟨_, rfl, fun d3 n3 a3 m3 o3 => ?_⟩
      have u3 : L2.Same J2 (upd (upd J2 d3 (.xd [("index", x)])) a3 (.frz o3 (EcO (.ref X03) (some d3) a3))) := (same_new n3).trans (same_new m3)
      have e3 : Ex10 [X00, X01, X02, X03, X04, X05, X06, X07, X08, X09, X10, X11, X12, X13, X14, X15, X16, X17, X18, X19, X20, X21, X22, X23, X24, X25, X26, X27, X28, X29, X30, X31, X32, X33, X34, X35] (upd (upd J2 d3 (.xd [("index", x)])) a3 (.frz o3 (EcO (.ref X03) (some d3) a3))) 3 x a3 X03 (some d3) := ⟨rfl, ⟨o3, upd_same⟩, (fun dd z => by cases z; exact ⟨_, (same_new m3) _ _ upd_same⟩), fun _ => ⟨d3, rfl, (same_new m3) _ _ upd_same⟩⟩
      generalize (upd (upd J2 d3 (.xd [("index", x)])) a3 (.frz o3 (EcO (.ref X03) (some d3) a3))) = J3 at u3 e3 ⊢
      walk_at "go"
      refine x_mkVS ?_
      walk_at "go"
      refine ⟨_, rfl, fun d4 n4 a4 m4 o4 => ?_⟩
      have u4 : L2.Same J3 (upd (upd J3 d4 (.xd [("most", x)])) a4 (.frz o4 (EcO (.ref X04) (some d4) a4))) := (same_new n4).trans (same_new m4)
      have e4 : Ex10 [X00, X01, X02, X03, X04, X05, X06, X07, X08, X09, X10, X11, X12, X13, X14, X15, X16, X17, X18, X19, X20, X21, X22, X23, X24, X25, X26, X27, X28, X29, X30, X31, X32, X33, X34, X35] (upd (upd J3 d4 (.xd [("most", x)])) a4 (.frz o4 (EcO (.ref X04) (some d4) a4))) 4 x a4 X04 (some d4) := ⟨rfl, ⟨o4, upd_same⟩, (fun dd z => by cases z; exact ⟨_, (same_new m4) _ _ upd_same⟩), fun _ => ⟨d4, rfl, (same_new m4) _ _ upd_same⟩⟩
      generalize (upd (upd J3 d4 (.xd [("most", x)])) a4 (.frz o4 (EcO (.ref X04) (some d4) a4))) = J4 at u4 e4 ⊢
      walk_at "go"
      refine x_mkVS ?_
      walk_at "go"
      refine ⟨_, rfl, fun d5 n5 a5 m5 o5 => ?_⟩
      have u5 : L2.Same J4 (upd (upd J4 d5 (.xd [("index", x)])) a5 (.frz o5 (EcO (.ref X05) (some d5) a5))) := (same_new n5).trans (same_new m5)
      have e5 : Ex10 [X00, X01, X02, X03, X04, X05, X06, X07, X08, X09, X10, X11, X12, X13, X14, X15, X16, X17, X18, X19, X20, X21, X22, X23, X24, X25, X26, X27, X28, X29, X30, X31, X32, X33, X34, X35] (upd (upd J4 d5 (.xd [("index", x)])) a5 (.frz o5 (EcO (.ref X05) (some d5) a5))) 5 x a5 X05 (some d5) := ⟨rfl, ⟨o5, upd_same⟩, (fun dd z => by cases z; exact ⟨_, (same_new m5) _ _ upd_same⟩), fun _ => ⟨d5, rfl, (same_new m5) _ _ upd_same⟩⟩
      generalize (upd (upd J4 d5 (.xd [("index", x)])) a5 (.frz o5 (EcO (.ref X05) (some d5) a5))) = J5 at u5 e5 ⊢
      walk_at "go"
      refine x_mkVS ?_
      walk_at "go"
      refine ⟨_, rfl, fun d6 n6 a6 m6 o6 => ?_⟩
      have u6 : L2.Same J5 (upd (upd J5 d6 (.xd [("line", x)])) a6 (.frz o6 (EcO (.ref X06) (some d6) a6))) := (same_new n6).trans (same_new m6)
      have e6 : Ex10 [X00, X01, X02, X03, X04, X05, X06, X07, X08, X09, X10, X11, X12, X13, X14, X15, X16, X17, X18, X19, X20, X21, X22, X23, X24, X25, X26, X27, X28, X29, X30, X31, X32, X33, X34, X35] (upd (upd J5 d6 (.xd [("line", x)])) a6 (.frz o6 (EcO (.ref X06) (some d6) a6))) 6 x a6 X06 (some d6) := ⟨rfl, ⟨o6, upd_same⟩, (fun dd z => by cases z; exact ⟨_, (same_new m6) _ _ upd_same⟩), fun _ => ⟨d6, rfl, (same_new m6) _ _ upd_same⟩⟩
      generalize (upd (upd J5 d6 (.xd [("line", x)])) a6 (.frz o6 (EcO (.ref X06) (some d6) a6))) = J6 at u6 e6 ⊢
      walk_at "go"
      refine x_mkVS ?_
      walk_at "go"
      refine ⟨_, rfl, fun d7 n7 a7 m7 o7 => ?_⟩
      have u7 : L2.Same J6 (upd (upd J6 d7 (.xd [("name", x)])) a7 (.frz o7 (EcO (.ref X07) (some d7) a7))) := (same_new n7).trans (same_new m7)
      have e7 : Ex10 [X00, X01, X02, X03, X04, X05, X06, X07, X08, X09, X10, X11, X12, X13, X14, X15, X16, X17, X18, X19, X20, X21, X22, X23, X24, X25, X26, X27, X28, X29, X30, X31, X32, X33, X34, X35] (upd (upd J6 d7 (.xd [("name", x)])) a7 (.frz o7 (EcO (.ref X07) (some d7) a7))) 7 x a7 X07 (some d7) := ⟨rfl, ⟨o7, upd_same⟩, (fun dd z => by cases z; exact ⟨_, (same_new m7) _ _ upd_same⟩), fun _ => ⟨d7, rfl, (same_new m7) _ _ upd_same⟩⟩
      generalize (upd (upd J6 d7 (.xd [("name", x)])) a7 (.frz o7 (EcO (.ref X07) (some d7) a7))) = J7 at u7 e7 ⊢
      walk_at "go"
      refine ⟨sz_le (by simp), fun L nL => ?_⟩
      have uL : L2.Same J7 (upd J7 L (.lst [V.ref a0, V.ref a1, V.ref a2, V.ref a3, V.ref a4, V.ref a5, V.ref a6, V.ref a7])) := same_new nL
      walk_at "go"
      obtain ⟨a, D, d, hy, ex⟩ : ∃ a D d, ([V.ref a0, V.ref a1, V.ref a2, V.ref a3, V.ref a4, V.ref a5, V.ref a6, V.ref a7] : List V)[k - 0]? = some (.ref a) ∧ Ex10 [X00, X01, X02, X03, X04, X05, X06, X07, X08, X09, X10, X11, X12, X13, X14, X15, X16, X17, X18, X19, X20, X21, X22, X23, X24, X25, X26, X27, X28, X29, X30, X31, X32, X33, X34, X35] (upd J7 L (.lst [V.ref a0, V.ref a1, V.ref a2, V.ref a3, V.ref a4, V.ref a5, V.ref a6, V.ref a7])) k x a D d := by
        have kk : k = 0 ∨ k = 1 ∨ k = 2 ∨ k = 3 ∨ k = 4 ∨ k = 5 ∨ k = 6 ∨ k = 7 := by omega
        rcases kk with rfl | rfl | rfl | rfl | rfl | rfl | rfl | rfl
        · exact ⟨a0, X00, _, rfl, e0.same (u1.trans (u2.trans (u3.trans (u4.trans (u5.trans (u6.trans (u7.trans uL)))))))⟩
        · exact ⟨a1, X01, _, rfl, e1.same (u2.trans (u3.trans (u4.trans (u5.trans (u6.trans (u7.trans uL))))))⟩
        · exact ⟨a2, X02, _, rfl, e2.same (u3.trans (u4.trans (u5.trans (u6.trans (u7.trans uL)))))⟩
        · exact ⟨a3, X03, _, rfl, e3.same (u4.trans (u5.trans (u6.trans (u7.trans uL))))⟩
        · exact ⟨a4, X04, _, rfl, e4.same (u5.trans (u6.trans (u7.trans uL)))⟩
        · exact ⟨a5, X05, _, rfl, e5.same (u6.trans (u7.trans uL))⟩
        · exact ⟨a6, X06, _, rfl, e6.same (u7.trans uL)⟩
        · exact ⟨a7, X07, _, rfl, e7.same uL⟩
      refine x_ixl (k - 0) (SqL.of upd_same) (by omega) hy ?_
      exact q _ a D d (u0.trans (u1.trans (u2.trans (u3.trans (u4.trans (u5.trans (u6.trans (u7.trans uL)))))))) ex
    · walk_at "go"
      refine x_dec (fun h20 => ?_) (fun h20 => ?_)
      · skip
        walk_at "go"
        refine x_mkV0 fun a8 m8 o8 => ?_
        have u8 : L2.Same H (upd H a8 (.frz o8 (EcO (.ref X08) none a8))) := same_new m8
        have e8 : Ex10 [X00, X01, X02, X03, X04, X05, X06, X07, X08, X09, X10, X11, X12, X13, X14, X15, X16, X17, X18, X19, X20, X21, X22, X23, X24, X25, X26, X27, X28, X29, X30, X31, X32, X33, X34, X35] (upd H a8 (.frz o8 (EcO (.ref X08) none a8))) 8 x a8 X08 none := ⟨rfl, ⟨o8, upd_same⟩, (fun dd z => by cases z), fun z => absurd z (by decide)⟩
        generalize (upd H a8 (.frz o8 (EcO (.ref X08) none a8))) = J8 at u8 e8 ⊢
        walk_at "go"
        refine x_mkV0 fun a9 m9 o9 => ?_
        have u9 : L2.Same J8 (upd J8 a9 (.frz o9 (EcO (.ref X09) none a9))) := same_new m9
        have e9 : Ex10 [X00, X01, X02, X03, X04, X05, X06, X07, X08, X09, X10, X11, X12, X13, X14, X15, X16, X17, X18, X19, X20, X21, X22, X23, X24, X25, X26, X27, X28, X29, X30, X31, X32, X33, X34, X35] (upd J8 a9 (.frz o9 (EcO (.ref X09) none a9))) 9 x a9 X09 none := ⟨rfl, ⟨o9, upd_same⟩, (fun dd z => by cases z), fun z => absurd z (by decide)⟩
        generalize (upd J8 a9 (.frz o9 (EcO (.ref X09) none a9))) = J9 at u9 e9 ⊢
        walk_at "go"
        refine x_mkV0 fun a10 m10 o10 => ?_
        have u10 : L2.Same J9 (upd J9 a10 (.frz o10 (EcO (.ref X10) none a10))) := same_new m10
        have e10 : Ex10 [X00, X01, X02, X03, X04, X05, X06, X07, X08, X09, X10, X11, X12, X13, X14, X15, X16, X17, X18, X19, X20, X21, X22, X23, X24, X25, X26, X27, X28, X29, X30, X31, X32, X33, X34, X35] (upd J9 a10 (.frz o10 (EcO (.ref X10) none a10))) 10 x a10 X10 none := ⟨rfl, ⟨o10, upd_same⟩, (fun dd z => by cases z), fun z => absurd z (by decide)⟩
        generalize (upd J9 a10 (.frz o10 (EcO (.ref X10) none a10))) = J10 at u10 e10 ⊢
        walk_at "go"
        refine x_mkV0 fun a11 m11 o11 => ?_
        have u11 : L2.Same J10 (upd J10 a11 (.frz o11 (EcO (.ref X11) none a11))) := same_new m11
        have e11 : Ex10 [X00, X01, X02, X03, X04, X05, X06, X07, X08, X09, X10, X11, X12, X13, X14, X15, X16, X17, X18, X19, X20, X21, X22, X23, X24, X25, X26, X27, X28, X29, X30, X31, X32, X33, X34, X35] (upd J10 a11 (.frz o11 (EcO (.ref X11) none a11))) 11 x a11 X11 none := ⟨rfl, ⟨o11, upd_same⟩, (fun dd z => by cases z), fun z => absurd z (by decide)⟩
        generalize (upd J10 a11 (.frz o11 (EcO (.ref X11) none a11))) = J11 at u11 e11 ⊢
        walk_at "go"
        refine x_mkV0 fun a12 m12 o12 => ?_
        have u12 : L2.Same J11 (upd J11 a12 (.frz o12 (EcO (.ref X12) none a12))) := same_new m12
        have e12 : Ex10 [X00, X01, X02, X03, X04, X05, X06, X07, X08, X09, X10, X11, X12, X13, X14, X15, X16, X17, X18, X19, X20, X21, X22, X23, X24, X25, X26, X27, X28, X29, X30, X31, X32, X33, X34, X35] (upd J11 a12 (.frz o12 (EcO (.ref X12) none a12))) 12 x a12 X12 none := ⟨rfl, ⟨o12, upd_same⟩, (fun dd z => by cases z), fun z => absurd z (by decide)⟩
        generalize (upd J11 a12 (.frz o12 (EcO (.ref X12) none a12))) = J12 at u12 e12 ⊢
        walk_at "go"
        refine x_mkV0 fun a13 m13 o13 => ?_
        have u13 : L2.Same J12 (upd J12 a13 (.frz o13 (EcO (.ref X13) none a13))) := same_new m13
        have e13 : Ex10 [X00, X01, X02, X03, X04, X05, X06, X07, X08, X09, X10, X11, X12, X13, X14, X15, X16, X17, X18, X19, X20, X21, X22, X23, X24, X25, X26, X27, X28, X29, X30, X31, X32, X33, X34, X35] (upd J12 a13 (.frz o13 (EcO (.ref X13) none a13))) 13 x a13 X13 none := ⟨rfl, ⟨o13, upd_same⟩, (fun dd z => by cases z), fun z => absurd z (by decide)⟩
        generalize (upd J12 a13 (.frz o13 (EcO (.ref X13) none a13))) = J13 at u13 e13 ⊢
        walk_at "go"
        refine x_mkV0 fun a14 m14 o14 => ?_
        have u14 : L2.Same J13 (upd J13 a14 (.frz o14 (EcO (.ref X14) none a14))) := same_new m14
        have e14 : Ex10 [X00, X01, X02, X03, X04, X05, X06, X07, X08, X09, X10, X11, X12, X13, X14, X15, X16, X17, X18, X19, X20, X21, X22, X23, X24, X25, X26, X27, X28, X29, X30, X31, X32, X33, X34, X35] (upd J13 a14 (.frz o14 (EcO (.ref X14) none a14))) 14 x a14 X14 none := ⟨rfl, ⟨o14, upd_same⟩, (fun dd z => by cases z), fun z => absurd z (by decide)⟩
        generalize (upd J13 a14 (.frz o14 (EcO (.ref X14) none a14))) = J14 at u14 e14 ⊢
        walk_at "go"
        refine x_mkV0 fun a15 m15 o15 => ?_
        have u15 : L2.Same J14 (upd J14 a15 (.frz o15 (EcO (.ref X15) none a15))) := same_new m15
        have e15 : Ex10 [X00, X01, X02, X03, X04, X05, X06, X07, X08, X09, X10, X11, X12, X13, X14, X15, X16, X17, X18, X19, X20, X21, X22, X23, X24, X25, X26, X27, X28, X29, X30, X31, X32, X33, X34, X35] (upd J14 a15 (.frz o15 (EcO (.ref X15) none a15))) 15 x a15 X15 none := ⟨rfl, ⟨o15, upd_same⟩, (fun dd z => by cases z), fun z => absurd z (by decide)⟩
        generalize (upd J14 a15 (.frz o15 (EcO (.ref X15) none a15))) = J15 at u15 e15 ⊢
        walk_at "go"
        refine x_mkV0 fun a16 m16 o16 => ?_
        have u16 : L2.Same J15 (upd J15 a16 (.frz o16 (EcO (.ref X16) none a16))) := same_new m16
        have e16 : Ex10 [X00, X01, X02, X03, X04, X05, X06, X07, X08, X09, X10, X11, X12, X13, X14, X15, X16, X17, X18, X19, X20, X21, X22, X23, X24, X25, X26, X27, X28, X29, X30, X31, X32, X33, X34, X35] (upd J15 a16 (.frz o16 (EcO (.ref X16) none a16))) 16 x a16 X16 none := ⟨rfl, ⟨o16, upd_same⟩, (fun dd z => by cases z), fun z => absurd z (by decide)⟩
        generalize (upd J15 a16 (.frz o16 (EcO (.ref X16) none a16))) = J16 at u16 e16 ⊢
        walk_at "go"
        refine x_mkV0 fun a17 m17 o17 => ?_
        have u17 : L2.Same J16 (upd J16 a17 (.frz o17 (EcO (.ref X17) none a17))) := same_new m17
        have e17 : Ex10 [X00, X01, X02, X03, X04, X05, X06, X07, X08, X09, X10, X11, X12, X13, X14, X15, X16, X17, X18, X19, X20, X21, X22, X23, X24, X25, X26, X27, X28, X29, X30, X31, X32, X33, X34, X35] (upd J16 a17 (.frz o17 (EcO (.ref X17) none a17))) 17 x a17 X17 none := ⟨rfl, ⟨o17, upd_same⟩, (fun dd z => by cases z), fun z => absurd z (by decide)⟩
        generalize (upd J16 a17 (.frz o17 (EcO (.ref X17) none a17))) = J17 at u17 e17 ⊢
        walk_at "go"
        refine x_mkV0 fun a18 m18 o18 => ?_
        have u18 : L2.Same J17 (upd J17 a18 (.frz o18 (EcO (.ref X18) none a18))) := same_new m18
        have e18 : Ex10 [X00, X01, X02, X03, X04, X05, X06, X07, X08, X09, X10, X11, X12, X13, X14, X15, X16, X17, X18, X19, X20, X21, X22, X23, X24, X25, X26, X27, X28, X29, X30, X31, X32, X33, X34, X35] (upd J17 a18 (.frz o18 (EcO (.ref X18) none a18))) 18 x a18 X18 none := ⟨rfl, ⟨o18, upd_same⟩, (fun dd z => by cases z), fun z => absurd z (by decide)⟩
        generalize (upd J17 a18 (.frz o18 (EcO (.ref X18) none a18))) = J18 at u18 e18 ⊢
        walk_at "go"
        refine x_mkV0 fun a19 m19 o19 => ?_
        have u19 : L2.Same J18 (upd J18 a19 (.frz o19 (EcO (.ref X19) none a19))) := same_new m19
        have e19 : Ex10 [X00, X01, X02, X03, X04, X05, X06, X07, X08, X09, X10, X11, X12, X13, X14, X15, X16, X17, X18, X19, X20, X21, X22, X23, X24, X25, X26, X27, X28, X29, X30, X31, X32, X33, X34, X35] (upd J18 a19 (.frz o19 (EcO (.ref X19) none a19))) 19 x a19 X19 none := ⟨rfl, ⟨o19, upd_same⟩, (fun dd z => by cases z), fun z => absurd z (by decide)⟩
        generalize (upd J18 a19 (.frz o19 (EcO (.ref X19) none a19))) = J19 at u19 e19 ⊢
        walk_at "go"
        refine ⟨sz_le (by simp), fun L nL => ?_⟩
        have uL : L2.Same J19 (upd J19 L (.lst [V.ref a8, V.ref a9, V.ref a10, V.ref a11, V.ref a12, V.ref a13, V.ref a14, V.ref a15, V.ref a16, V.ref a17, V.ref a18, V.ref a19])) := same_new nL
        walk_at "go"
        obtain ⟨a, D, d, hy, ex⟩ : ∃ a D d, ([V.ref a8, V.ref a9, V.ref a10, V.ref a11, V.ref a12, V.ref a13, V.ref a14, V.ref a15, V.ref a16, V.ref a17, V.ref a18, V.ref a19] : List V)[k - 8]? = some (.ref a) ∧ Ex10 [X00, X01, X02, X03, X04, X05, X06, X07, X08, X09, X10, X11, X12, X13, X14, X15, X16, X17, X18, X19, X20, X21, X22, X23, X24, X25, X26, X27, X28, X29, X30, X31, X32, X33, X34, X35] (upd J19 L (.lst [V.ref a8, V.ref a9, V.ref a10, V.ref a11, V.ref a12, V.ref a13, V.ref a14, V.ref a15, V.ref a16, V.ref a17, V.ref a18, V.ref a19])) k x a D d := by
          have kk : k = 8 ∨ k = 9 ∨ k = 10 ∨ k = 11 ∨ k = 12 ∨ k = 13 ∨ k = 14 ∨ k = 15 ∨ k = 16 ∨ k = 17 ∨ k = 18 ∨ k = 19 := by omega
          rcases kk with rfl | rfl | rfl | rfl | rfl | rfl | rfl | rfl | rfl | rfl | rfl | rfl
          · exact ⟨a8, X08, _, rfl, e8.same (u9.trans (u10.trans (u11.trans (u12.trans (u13.trans (u14.trans (u15.trans (u16.trans (u17.trans (u18.trans (u19.trans uL)))))))))))⟩
          · exact ⟨a9, X09, _, rfl, e9.same (u10.trans (u11.trans (u12.trans (u13.trans (u14.trans (u15.trans (u16.trans (u17.trans (u18.trans (u19.trans uL))))))))))⟩
          · exact ⟨a10, X10, _, rfl, e10.same (u11.trans (u12.trans (u13.trans (u14.trans (u15.trans (u16.trans (u17.trans (u18.trans (u19.trans uL)))))))))⟩
          · exact ⟨a11, X11, _, rfl, e11.same (u12.trans (u13.trans (u14.trans (u15.trans (u16.trans (u17.trans (u18.trans (u19.trans uL))))))))⟩
          · exact ⟨a12, X12, _, rfl, e12.same (u13.trans (u14.trans (u15.trans (u16.trans (u17.trans (u18.trans (u19.trans uL)))))))⟩
          · exact ⟨a13, X13, _, rfl, e13.same (u14.trans (u15.trans (u16.trans (u17.trans (u18.trans (u19.trans uL))))))⟩
          · exact ⟨a14, X14, _, rfl, e14.same (u15.trans (u16.trans (u17.trans (u18.trans (u19.trans uL)))))⟩
          · exact ⟨a15, X15, _, rfl, e15.same (u16.trans (u17.trans (u18.trans (u19.trans uL))))⟩
          · exact ⟨a16, X16, _, rfl, e16.same (u17.trans (u18.trans (u19.trans uL)))⟩
          · exact ⟨a17, X17, _, rfl, e17.same (u18.trans (u19.trans uL))⟩
          · exact ⟨a18, X18, _, rfl, e18.same (u19.trans uL)⟩
          · exact ⟨a19, X19, _, rfl, e19.same uL⟩
        refine x_ixl (k - 8) (SqL.of upd_same) (by omega) hy ?_
        exact q _ a D d (u8.trans (u9.trans (u10.trans (u11.trans (u12.trans (u13.trans (u14.trans (u15.trans (u16.trans (u17.trans (u18.trans (u19.trans uL)))))))))))) ex
      · skip
        walk_at "go"
        refine x_mkV0 fun a20 m20 o20 => ?_
        have u20 : L2.Same H (upd H a20 (.frz o20 (EcO (.ref X20) none a20))) := same_new m20
        have e20 : Ex10 [X00, X01, X02, X03, X04, X05, X06, X07, X08, X09, X10, X11, X12, X13, X14, X15, X16, X17, X18, X19, X20, X21, X22, X23, X24, X25, X26, X27, X28, X29, X30, X31, X32, X33, X34, X35] (upd H a20 (.frz o20 (EcO (.ref X20) none a20))) 20 x a20 X20 none := ⟨rfl, ⟨o20, upd_same⟩, (fun dd z => by cases z), fun z => absurd z (by decide)⟩
        generalize (upd H a20 (.frz o20 (EcO (.ref X20) none a20))) = J20 at u20 e20 ⊢
        walk_at "go"
        refine x_mkV0 fun a21 m21 o21 => ?_
        have u21 : L2.Same J20 (upd J20 a21 (.frz o21 (EcO (.ref X21) none a21))) := same_new m21
        have e21 : Ex10 [X00, X01, X02, X03, X04, X05, X06, X07, X08, X09, X10, X11, X12, X13, X14, X15, X16, X17, X18, X19, X20, X21, X22, X23, X24, X25, X26, X27, X28, X29, X30, X31, X32, X33, X34, X35] (upd J20 a21 (.frz o21 (EcO (.ref X21) none a21))) 21 x a21 X21 none := ⟨rfl, ⟨o21, upd_same⟩, (fun dd z => by cases z), fun z => absurd z (by decide)⟩
        generalize (upd J20 a21 (.frz o21 (EcO (.ref X21) none a21))) = J21 at u21 e21 ⊢
        walk_at "go"
        refine x_mkV0 fun a22 m22 o22 => ?_
        have u22 : L2.Same J21 (upd J21 a22 (.frz o22 (EcO (.ref X22) none a22))) := same_new m22
        have e22 : Ex10 [X00, X01, X02, X03, X04, X05, X06, X07, X08, X09, X10, X11, X12, X13, X14, X15, X16, X17, X18, X19, X20, X21, X22, X23, X24, X25, X26, X27, X28, X29, X30, X31, X32, X33, X34, X35] (upd J21 a22 (.frz o22 (EcO (.ref X22) none a22))) 22 x a22 X22 none := ⟨rfl, ⟨o22, upd_same⟩, (fun dd z => by cases z), fun z => absurd z (by decide)⟩
        generalize (upd J21 a22 (.frz o22 (EcO (.ref X22) none a22))) = J22 at u22 e22 ⊢
        walk_at "go"
        refine x_mkV0 fun a23 m23 o23 => ?_
        have u23 : L2.Same J22 (upd J22 a23 (.frz o23 (EcO (.ref X23) none a23))) := same_new m23
        have e23 : Ex10 [X00, X01, X02, X03, X04, X05, X06, X07, X08, X09, X10, X11, X12, X13, X14, X15, X16, X17, X18, X19, X20, X21, X22, X23, X24, X25, X26, X27, X28, X29, X30, X31, X32, X33, X34, X35] (upd J22 a23 (.frz o23 (EcO (.ref X23) none a23))) 23 x a23 X23 none := ⟨rfl, ⟨o23, upd_same⟩, (fun dd z => by cases z), fun z => absurd z (by decide)⟩
        generalize (upd J22 a23 (.frz o23 (EcO (.ref X23) none a23))) = J23 at u23 e23 ⊢
        walk_at "go"
        refine x_mkV0 fun a24 m24 o24 => ?_
        have u24 : L2.Same J23 (upd J23 a24 (.frz o24 (EcO (.ref X24) none a24))) := same_new m24
        have e24 : Ex10 [X00, X01, X02, X03, X04, X05, X06, X07, X08, X09, X10, X11, X12, X13, X14, X15, X16, X17, X18, X19, X20, X21, X22, X23, X24, X25, X26, X27, X28, X29, X30, X31, X32, X33, X34, X35] (upd J23 a24 (.frz o24 (EcO (.ref X24) none a24))) 24 x a24 X24 none := ⟨rfl, ⟨o24, upd_same⟩, (fun dd z => by cases z), fun z => absurd z (by decide)⟩
        generalize (upd J23 a24 (.frz o24 (EcO (.ref X24) none a24))) = J24 at u24 e24 ⊢
        walk_at "go"
        refine x_mkV0 fun a25 m25 o25 => ?_
        have u25 : L2.Same J24 (upd J24 a25 (.frz o25 (EcO (.ref X25) none a25))) := same_new m25
        have e25 : Ex10 [X00, X01, X02, X03, X04, X05, X06, X07, X08, X09, X10, X11, X12, X13, X14, X15, X16, X17, X18, X19, X20, X21, X22, X23, X24, X25, X26, X27, X28, X29, X30, X31, X32, X33, X34, X35] (upd J24 a25 (.frz o25 (EcO (.ref X25) none a25))) 25 x a25 X25 none := ⟨rfl, ⟨o25, upd_same⟩, (fun dd z => by cases z), fun z => absurd z (by decide)⟩
        generalize (upd J24 a25 (.frz o25 (EcO (.ref X25) none a25))) = J25 at u25 e25 ⊢
        walk_at "go"
        refine x_mkV0 fun a26 m26 o26 => ?_
        have u26 : L2.Same J25 (upd J25 a26 (.frz o26 (EcO (.ref X26) none a26))) := same_new m26
        have e26 : Ex10 [X00, X01, X02, X03, X04, X05, X06, X07, X08, X09, X10, X11, X12, X13, X14, X15, X16, X17, X18, X19, X20, X21, X22, X23, X24, X25, X26, X27, X28, X29, X30, X31, X32, X33, X34, X35] (upd J25 a26 (.frz o26 (EcO (.ref X26) none a26))) 26 x a26 X26 none := ⟨rfl, ⟨o26, upd_same⟩, (fun dd z => by cases z), fun z => absurd z (by decide)⟩
        generalize (upd J25 a26 (.frz o26 (EcO (.ref X26) none a26))) = J26 at u26 e26 ⊢
        walk_at "go"
        refine x_mkV0 fun a27 m27 o27 => ?_
        have u27 : L2.Same J26 (upd J26 a27 (.frz o27 (EcO (.ref X27) none a27))) := same_new m27
        have e27 : Ex10 [X00, X01, X02, X03, X04, X05, X06, X07, X08, X09, X10, X11, X12, X13, X14, X15, X16, X17, X18, X19, X20, X21, X22, X23, X24, X25, X26, X27, X28, X29, X30, X31, X32, X33, X34, X35] (upd J26 a27 (.frz o27 (EcO (.ref X27) none a27))) 27 x a27 X27 none := ⟨rfl, ⟨o27, upd_same⟩, (fun dd z => by cases z), fun z => absurd z (by decide)⟩
        generalize (upd J26 a27 (.frz o27 (EcO (.ref X27) none a27))) = J27 at u27 e27 ⊢
        walk_at "go"
        refine x_mkV0 fun a28 m28 o28 => ?_
        have u28 : L2.Same J27 (upd J27 a28 (.frz o28 (EcO (.ref X28) none a28))) := same_new m28
        have e28 : Ex10 [X00, X01, X02, X03, X04, X05, X06, X07, X08, X09, X10, X11, X12, X13, X14, X15, X16, X17, X18, X19, X20, X21, X22, X23, X24, X25, X26, X27, X28, X29, X30, X31, X32, X33, X34, X35] (upd J27 a28 (.frz o28 (EcO (.ref X28) none a28))) 28 x a28 X28 none := ⟨rfl, ⟨o28, upd_same⟩, (fun dd z => by cases z), fun z => absurd z (by decide)⟩
        generalize (upd J27 a28 (.frz o28 (EcO (.ref X28) none a28))) = J28 at u28 e28 ⊢
        walk_at "go"
        refine x_mkV0 fun a29 m29 o29 => ?_
        have u29 : L2.Same J28 (upd J28 a29 (.frz o29 (EcO (.ref X29) none a29))) := same_new m29
        have e29 : Ex10 [X00, X01, X02, X03, X04, X05, X06, X07, X08, X09, X10, X11, X12, X13, X14, X15, X16, X17, X18, X19, X20, X21, X22, X23, X24, X25, X26, X27, X28, X29, X30, X31, X32, X33, X34, X35] (upd J28 a29 (.frz o29 (EcO (.ref X29) none a29))) 29 x a29 X29 none := ⟨rfl, ⟨o29, upd_same⟩, (fun dd z => by cases z), fun z => absurd z (by decide)⟩
        generalize (upd J28 a29 (.frz o29 (EcO (.ref X29) none a29))) = J29 at u29 e29 ⊢
        walk_at "go"
        refine x_mkV0 fun a30 m30 o30 => ?_
        have u30 : L2.Same J29 (upd J29 a30 (.frz o30 (EcO (.ref X30) none a30))) := same_new m30
        have e30 : Ex10 [X00, X01, X02, X03, X04, X05, X06, X07, X08, X09, X10, X11, X12, X13, X14, X15, X16, X17, X18, X19, X20, X21, X22, X23, X24, X25, X26, X27, X28, X29, X30, X31, X32, X33, X34, X35] (upd J29 a30 (.frz o30 (EcO (.ref X30) none a30))) 30 x a30 X30 none := ⟨rfl, ⟨o30, upd_same⟩, (fun dd z => by cases z), fun z => absurd z (by decide)⟩
        generalize (upd J29 a30 (.frz o30 (EcO (.ref X30) none a30))) = J30 at u30 e30 ⊢
        walk_at "go"
        refine x_mkV0 fun a31 m31 o31 => ?_
        have u31 : L2.Same J30 (upd J30 a31 (.frz o31 (EcO (.ref X31) none a31))) := same_new m31
        have e31 : Ex10 [X00, X01, X02, X03, X04, X05, X06, X07, X08, X09, X10, X11, X12, X13, X14, X15, X16, X17, X18, X19, X20, X21, X22, X23, X24, X25, X26, X27, X28, X29, X30, X31, X32, X33, X34, X35] (upd J30 a31 (.frz o31 (EcO (.ref X31) none a31))) 31 x a31 X31 none := ⟨rfl, ⟨o31, upd_same⟩, (fun dd z => by cases z), fun z => absurd z (by decide)⟩
        generalize (upd J30 a31 (.frz o31 (EcO (.ref X31) none a31))) = J31 at u31 e31 ⊢
        walk_at "go"
        refine x_mkV0 fun a32 m32 o32 => ?_
        have u32 : L2.Same J31 (upd J31 a32 (.frz o32 (EcO (.ref X32) none a32))) := same_new m32
        have e32 : Ex10 [X00, X01, X02, X03, X04, X05, X06, X07, X08, X09, X10, X11, X12, X13, X14, X15, X16, X17, X18, X19, X20, X21, X22, X23, X24, X25, X26, X27, X28, X29, X30, X31, X32, X33, X34, X35] (upd J31 a32 (.frz o32 (EcO (.ref X32) none a32))) 32 x a32 X32 none := ⟨rfl, ⟨o32, upd_same⟩, (fun dd z => by cases z), fun z => absurd z (by decide)⟩
        generalize (upd J31 a32 (.frz o32 (EcO (.ref X32) none a32))) = J32 at u32 e32 ⊢
        walk_at "go"
        refine x_mkV0 fun a33 m33 o33 => ?_
        have u33 : L2.Same J32 (upd J32 a33 (.frz o33 (EcO (.ref X33) none a33))) := same_new m33
        have e33 : Ex10 [X00, X01, X02, X03, X04, X05, X06, X07, X08, X09, X10, X11, X12, X13, X14, X15, X16, X17, X18, X19, X20, X21, X22, X23, X24, X25, X26, X27, X28, X29, X30, X31, X32, X33, X34, X35] (upd J32 a33 (.frz o33 (EcO (.ref X33) none a33))) 33 x a33 X33 none := ⟨rfl, ⟨o33, upd_same⟩, (fun dd z => by cases z), fun z => absurd z (by decide)⟩
        generalize (upd J32 a33 (.frz o33 (EcO (.ref X33) none a33))) = J33 at u33 e33 ⊢
        walk_at "go"
        refine x_mkV0 fun a34 m34 o34 => ?_
        have u34 : L2.Same J33 (upd J33 a34 (.frz o34 (EcO (.ref X34) none a34))) := same_new m34
        have e34 : Ex10 [X00, X01, X02, X03, X04, X05, X06, X07, X08, X09, X10, X11, X12, X13, X14, X15, X16, X17, X18, X19, X20, X21, X22, X23, X24, X25, X26, X27, X28, X29, X30, X31, X32, X33, X34, X35] (upd J33 a34 (.frz o34 (EcO (.ref X34) none a34))) 34 x a34 X34 none := ⟨rfl, ⟨o34, upd_same⟩, (fun dd z => by cases z), fun z => absurd z (by decide)⟩
        generalize (upd J33 a34 (.frz o34 (EcO (.ref X34) none a34))) = J34 at u34 e34 ⊢
        walk_at "go"
        refine x_mkV0 fun a35 m35 o35 => ?_
        have u35 : L2.Same J34 (upd J34 a35 (.frz o35 (EcO (.ref X35) none a35))) := same_new m35
        have e35 : Ex10 [X00, X01, X02, X03, X04, X05, X06, X07, X08, X09, X10, X11, X12, X13, X14, X15, X16, X17, X18, X19, X20, X21, X22, X23, X24, X25, X26, X27, X28, X29, X30, X31, X32, X33, X34, X35] (upd J34 a35 (.frz o35 (EcO (.ref X35) none a35))) 35 x a35 X35 none := ⟨rfl, ⟨o35, upd_same⟩, (fun dd z => by cases z), fun z => absurd z (by decide)⟩
        generalize (upd J34 a35 (.frz o35 (EcO (.ref X35) none a35))) = J35 at u35 e35 ⊢
        walk_at "go"
        refine ⟨sz_le (by simp), fun L nL => ?_⟩
        have uL : L2.Same J35 (upd J35 L (.lst [V.ref a20, V.ref a21, V.ref a22, V.ref a23, V.ref a24, V.ref a25, V.ref a26, V.ref a27, V.ref a28, V.ref a29, V.ref a30, V.ref a31, V.ref a32, V.ref a33, V.ref a34, V.ref a35])) := same_new nL
        walk_at "go"
        obtain ⟨a, D, d, hy, ex⟩ : ∃ a D d, ([V.ref a20, V.ref a21, V.ref a22, V.ref a23, V.ref a24, V.ref a25, V.ref a26, V.ref a27, V.ref a28, V.ref a29, V.ref a30, V.ref a31, V.ref a32, V.ref a33, V.ref a34, V.ref a35] : List V)[k - 20]? = some (.ref a) ∧ Ex10 [X00, X01, X02, X03, X04, X05, X06, X07, X08, X09, X10, X11, X12, X13, X14, X15, X16, X17, X18, X19, X20, X21, X22, X23, X24, X25, X26, X27, X28, X29, X30, X31, X32, X33, X34, X35] (upd J35 L (.lst [V.ref a20, V.ref a21, V.ref a22, V.ref a23, V.ref a24, V.ref a25, V.ref a26, V.ref a27, V.ref a28, V.ref a29, V.ref a30, V.ref a31, V.ref a32, V.ref a33, V.ref a34, V.ref a35])) k x a D d := by
          have kk : k = 20 ∨ k = 21 ∨ k = 22 ∨ k = 23 ∨ k = 24 ∨ k = 25 ∨ k = 26 ∨ k = 27 ∨ k = 28 ∨ k = 29 ∨ k = 30 ∨ k = 31 ∨ k = 32 ∨ k = 33 ∨ k = 34 ∨ k = 35 := by omega
          rcases kk with rfl | rfl | rfl | rfl | rfl | rfl | rfl | rfl | rfl | rfl | rfl | rfl | rfl | rfl | rfl | rfl
          · exact ⟨a20, X20, _, rfl, e20.same (u21.trans (u22.trans (u23.trans (u24.trans (u25.trans (u26.trans (u27.trans (u28.trans (u29.trans (u30.trans (u31.trans (u32.trans (u33.trans (u34.trans (u35.trans uL)))))))))))))))⟩
          · exact ⟨a21, X21, _, rfl, e21.same (u22.trans (u23.trans (u24.trans (u25.trans (u26.trans (u27.trans (u28.trans (u29.trans (u30.trans (u31.trans (u32.trans (u33.trans (u34.trans (u35.trans uL))))))))))))))⟩
          · exact ⟨a22, X22, _, rfl, e22.same (u23.trans (u24.trans (u25.trans (u26.trans (u27.trans (u28.trans (u29.trans (u30.trans (u31.trans (u32.trans (u33.trans (u34.trans (u35.trans uL)))))))))))))⟩
          · exact ⟨a23, X23, _, rfl, e23.same (u24.trans (u25.trans (u26.trans (u27.trans (u28.trans (u29.trans (u30.trans (u31.trans (u32.trans (u33.trans (u34.trans (u35.trans uL))))))))))))⟩
          · exact ⟨a24, X24, _, rfl, e24.same (u25.trans (u26.trans (u27.trans (u28.trans (u29.trans (u30.trans (u31.trans (u32.trans (u33.trans (u34.trans (u35.trans uL)))))))))))⟩
          · exact ⟨a25, X25, _, rfl, e25.same (u26.trans (u27.trans (u28.trans (u29.trans (u30.trans (u31.trans (u32.trans (u33.trans (u34.trans (u35.trans uL))))))))))⟩
          · exact ⟨a26, X26, _, rfl, e26.same (u27.trans (u28.trans (u29.trans (u30.trans (u31.trans (u32.trans (u33.trans (u34.trans (u35.trans uL)))))))))⟩
          · exact ⟨a27, X27, _, rfl, e27.same (u28.trans (u29.trans (u30.trans (u31.trans (u32.trans (u33.trans (u34.trans (u35.trans uL))))))))⟩
          · exact ⟨a28, X28, _, rfl, e28.same (u29.trans (u30.trans (u31.trans (u32.trans (u33.trans (u34.trans (u35.trans uL)))))))⟩
          · exact ⟨a29, X29, _, rfl, e29.same (u30.trans (u31.trans (u32.trans (u33.trans (u34.trans (u35.trans uL))))))⟩
          · exact ⟨a30, X30, _, rfl, e30.same (u31.trans (u32.trans (u33.trans (u34.trans (u35.trans uL)))))⟩
          · exact ⟨a31, X31, _, rfl, e31.same (u32.trans (u33.trans (u34.trans (u35.trans uL))))⟩
          · exact ⟨a32, X32, _, rfl, e32.same (u33.trans (u34.trans (u35.trans uL)))⟩
          · exact ⟨a33, X33, _, rfl, e33.same (u34.trans (u35.trans uL))⟩
          · exact ⟨a34, X34, _, rfl, e34.same (u35.trans uL)⟩
          · exact ⟨a35, X35, _, rfl, e35.same uL⟩
        refine x_ixl (k - 20) (SqL.of upd_same) (by omega) hy ?_
        exact q _ a D d (u20.trans (u21.trans (u22.trans (u23.trans (u24.trans (u25.trans (u26.trans (u27.trans (u28.trans (u29.trans (u30.trans (u31.trans (u32.trans (u33.trans (u34.trans (u35.trans uL)))))))))))))))) ex
theorem ok_l_flags {f : Addr} {fd : FuncData} (F : Fun K "_law_flags" "_law_flags" s_l_flags f fd) (Z_isinstance : mg "isinstance" = none) (G_BadWork : mg "BadWork" = some (.ref X00)) (G_NoStand : mg "NoStand" = some (.ref X01)) (G_NoStep : mg "NoStep" = some (.ref X02)) (G_BadRun : mg "BadRun" = some (.ref X03)) (G_TooMany : mg "TooMany" = some (.ref X04)) (G_BadLog : mg "BadLog" = some (.ref X05)) (G_BadText : mg "BadText" = some (.ref X06)) (G_NoName : mg "NoName" = some (.ref X07)) (G_BadLot : mg "BadLot" = some (.ref X08)) (G_BadWish : mg "BadWish" = some (.ref X09)) (G_Unsuited : mg "Unsuited" = some (.ref X10)) (G_BadNumber : mg "BadNumber" = some (.ref X11)) (G_NoChance : mg "NoChance" = some (.ref X12)) (G_BadFraction : mg "BadFraction" = some (.ref X13)) (G_BadRing : mg "BadRing" = some (.ref X14)) (G_BadLooks : mg "BadLooks" = some (.ref X15)) (G_BadKnowledge : mg "BadKnowledge" = some (.ref X16)) (G_BadLook : mg "BadLook" = some (.ref X17)) (G_BadHand : mg "BadHand" = some (.ref X18)) (G_NoRun : mg "NoRun" = some (.ref X19)) (G_BadProgram : mg "BadProgram" = some (.ref X20)) (G_BadPrograms : mg "BadPrograms" = some (.ref X21)) (G_TooLarge : mg "TooLarge" = some (.ref X22)) (G_Ringed : mg "Ringed" = some (.ref X23)) (G_BadBook : mg "BadBook" = some (.ref X24)) (G_BadPrices : mg "BadPrices" = some (.ref X25)) (G_BadFalls : mg "BadFalls" = some (.ref X26)) (G_NoEnd : mg "NoEnd" = some (.ref X27)) (G_LastStep : mg "LastStep" = some (.ref X28)) (G_NoHand : mg "NoHand" = some (.ref X29)) (G_BadName : mg "BadName" = some (.ref X30)) (G_BadOrder : mg "BadOrder" = some (.ref X31)) (G_NotNow : mg "NotNow" = some (.ref X32)) (G_NoLine : mg "NoLine" = some (.ref X33)) (G_NoBench : mg "NoBench" = some (.ref X34)) (G_NothingDone : mg "NothingDone" = some (.ref X35)) (kit : KitAll K [X00, X01, X02, X03, X04, X05, X06, X07, X08, X09, X10, X11, X12, X13, X14, X15, X16, X17, X18, X19, X20, X21, X22, X23, X24, X25, X26, X27, X28, X29, X30, X31, X32, X33, X34, X35]) :
    FnOk P w K mg base CX0 2 f fd ["_law_e"] (spFlags K [X00, X01, X02, X03, X04, X05, X06, X07, X08, X09, X10, X11, X12, X13, X14, X15, X16, X17, X18, X19, X20, X21, X22, X23, X24, X25, X26, X27, X28, X29, X30, X31, X32, X33, X34, X35]) := by
  refine F.ok sc_l_flags (fun vs H Q E h => ?_) (fun cdv A outer s H vs Q E hr h => ?_)
  · obtain ⟨_, _, _, _, _, rfl, _⟩ := h
    rfl
  · obtain ⟨k, x, a, D, d, rfl, ex, ec, q⟩ := h
    refine ⟨_, (pss_cons (ps_set (i := 1) sc_l_flags.nd rfl (Or.inl rfl) (pe_lst (pa_cons (pe_callB call_isV (by rfl) Z_isinstance (by decide +kernel) (pa_cons (pv 0) (pa_cons (pe_glob (v := .ref _) (by rfl) G_BadWork rfl) pa_nil))) (pa_cons (pe_callB call_isV (by rfl) Z_isinstance (by decide +kernel) (pa_cons (pv 0) (pa_cons (pe_glob (v := .ref _) (by rfl) G_NoStand rfl) pa_nil))) (pa_cons (pe_callB call_isV (by rfl) Z_isinstance (by decide +kernel) (pa_cons (pv 0) (pa_cons (pe_glob (v := .ref _) (by rfl) G_NoStep rfl) pa_nil))) (pa_cons (pe_callB call_isV (by rfl) Z_isinstance (by decide +kernel) (pa_cons (pv 0) (pa_cons (pe_glob (v := .ref _) (by rfl) G_BadRun rfl) pa_nil))) pa_nil))))))
      (pss_cons (ps_set (i := 1) sc_l_flags.nd rfl (Or.inl rfl) (pe_op op_cat (pv 1) (pe_lst (pa_cons (pe_callB call_isV (by rfl) Z_isinstance (by decide +kernel) (pa_cons (pv 0) (pa_cons (pe_glob (v := .ref _) (by rfl) G_TooMany rfl) pa_nil))) (pa_cons (pe_callB call_isV (by rfl) Z_isinstance (by decide +kernel) (pa_cons (pv 0) (pa_cons (pe_glob (v := .ref _) (by rfl) G_BadLog rfl) pa_nil))) (pa_cons (pe_callB call_isV (by rfl) Z_isinstance (by decide +kernel) (pa_cons (pv 0) (pa_cons (pe_glob (v := .ref _) (by rfl) G_BadText rfl) pa_nil))) (pa_cons (pe_callB call_isV (by rfl) Z_isinstance (by decide +kernel) (pa_cons (pv 0) (pa_cons (pe_glob (v := .ref _) (by rfl) G_NoName rfl) pa_nil))) pa_nil)))))))
      (pss_cons (ps_set (i := 1) sc_l_flags.nd rfl (Or.inl rfl) (pe_op op_cat (pv 1) (pe_lst (pa_cons (pe_callB call_isV (by rfl) Z_isinstance (by decide +kernel) (pa_cons (pv 0) (pa_cons (pe_glob (v := .ref _) (by rfl) G_BadLot rfl) pa_nil))) (pa_cons (pe_callB call_isV (by rfl) Z_isinstance (by decide +kernel) (pa_cons (pv 0) (pa_cons (pe_glob (v := .ref _) (by rfl) G_BadWish rfl) pa_nil))) (pa_cons (pe_callB call_isV (by rfl) Z_isinstance (by decide +kernel) (pa_cons (pv 0) (pa_cons (pe_glob (v := .ref _) (by rfl) G_Unsuited rfl) pa_nil))) (pa_cons (pe_callB call_isV (by rfl) Z_isinstance (by decide +kernel) (pa_cons (pv 0) (pa_cons (pe_glob (v := .ref _) (by rfl) G_BadNumber rfl) pa_nil))) pa_nil)))))))
      (pss_cons (ps_set (i := 1) sc_l_flags.nd rfl (Or.inl rfl) (pe_op op_cat (pv 1) (pe_lst (pa_cons (pe_callB call_isV (by rfl) Z_isinstance (by decide +kernel) (pa_cons (pv 0) (pa_cons (pe_glob (v := .ref _) (by rfl) G_NoChance rfl) pa_nil))) (pa_cons (pe_callB call_isV (by rfl) Z_isinstance (by decide +kernel) (pa_cons (pv 0) (pa_cons (pe_glob (v := .ref _) (by rfl) G_BadFraction rfl) pa_nil))) (pa_cons (pe_callB call_isV (by rfl) Z_isinstance (by decide +kernel) (pa_cons (pv 0) (pa_cons (pe_glob (v := .ref _) (by rfl) G_BadRing rfl) pa_nil))) pa_nil))))))
      (pss_cons (ps_set (i := 1) sc_l_flags.nd rfl (Or.inl rfl) (pe_op op_cat (pv 1) (pe_lst (pa_cons (pe_callB call_isV (by rfl) Z_isinstance (by decide +kernel) (pa_cons (pv 0) (pa_cons (pe_glob (v := .ref _) (by rfl) G_BadLooks rfl) pa_nil))) (pa_cons (pe_callB call_isV (by rfl) Z_isinstance (by decide +kernel) (pa_cons (pv 0) (pa_cons (pe_glob (v := .ref _) (by rfl) G_BadKnowledge rfl) pa_nil))) (pa_cons (pe_callB call_isV (by rfl) Z_isinstance (by decide +kernel) (pa_cons (pv 0) (pa_cons (pe_glob (v := .ref _) (by rfl) G_BadLook rfl) pa_nil))) pa_nil))))))
      (pss_cons (ps_set (i := 1) sc_l_flags.nd rfl (Or.inl rfl) (pe_op op_cat (pv 1) (pe_lst (pa_cons (pe_callB call_isV (by rfl) Z_isinstance (by decide +kernel) (pa_cons (pv 0) (pa_cons (pe_glob (v := .ref _) (by rfl) G_BadHand rfl) pa_nil))) (pa_cons (pe_callB call_isV (by rfl) Z_isinstance (by decide +kernel) (pa_cons (pv 0) (pa_cons (pe_glob (v := .ref _) (by rfl) G_NoRun rfl) pa_nil))) (pa_cons (pe_callB call_isV (by rfl) Z_isinstance (by decide +kernel) (pa_cons (pv 0) (pa_cons (pe_glob (v := .ref _) (by rfl) G_BadProgram rfl) pa_nil))) pa_nil))))))
      (pss_cons (ps_set (i := 1) sc_l_flags.nd rfl (Or.inl rfl) (pe_op op_cat (pv 1) (pe_lst (pa_cons (pe_callB call_isV (by rfl) Z_isinstance (by decide +kernel) (pa_cons (pv 0) (pa_cons (pe_glob (v := .ref _) (by rfl) G_BadPrograms rfl) pa_nil))) (pa_cons (pe_callB call_isV (by rfl) Z_isinstance (by decide +kernel) (pa_cons (pv 0) (pa_cons (pe_glob (v := .ref _) (by rfl) G_TooLarge rfl) pa_nil))) (pa_cons (pe_callB call_isV (by rfl) Z_isinstance (by decide +kernel) (pa_cons (pv 0) (pa_cons (pe_glob (v := .ref _) (by rfl) G_Ringed rfl) pa_nil))) pa_nil))))))
      (pss_cons (ps_set (i := 1) sc_l_flags.nd rfl (Or.inl rfl) (pe_op op_cat (pv 1) (pe_lst (pa_cons (pe_callB call_isV (by rfl) Z_isinstance (by decide +kernel) (pa_cons (pv 0) (pa_cons (pe_glob (v := .ref _) (by rfl) G_BadBook rfl) pa_nil))) (pa_cons (pe_callB call_isV (by rfl) Z_isinstance (by decide +kernel) (pa_cons (pv 0) (pa_cons (pe_glob (v := .ref _) (by rfl) G_BadPrices rfl) pa_nil))) (pa_cons (pe_callB call_isV (by rfl) Z_isinstance (by decide +kernel) (pa_cons (pv 0) (pa_cons (pe_glob (v := .ref _) (by rfl) G_BadFalls rfl) pa_nil))) (pa_cons (pe_callB call_isV (by rfl) Z_isinstance (by decide +kernel) (pa_cons (pv 0) (pa_cons (pe_glob (v := .ref _) (by rfl) G_NoEnd rfl) pa_nil))) pa_nil)))))))
      (pss_cons (ps_set (i := 1) sc_l_flags.nd rfl (Or.inl rfl) (pe_op op_cat (pv 1) (pe_lst (pa_cons (pe_callB call_isV (by rfl) Z_isinstance (by decide +kernel) (pa_cons (pv 0) (pa_cons (pe_glob (v := .ref _) (by rfl) G_LastStep rfl) pa_nil))) (pa_cons (pe_callB call_isV (by rfl) Z_isinstance (by decide +kernel) (pa_cons (pv 0) (pa_cons (pe_glob (v := .ref _) (by rfl) G_NoHand rfl) pa_nil))) (pa_cons (pe_callB call_isV (by rfl) Z_isinstance (by decide +kernel) (pa_cons (pv 0) (pa_cons (pe_glob (v := .ref _) (by rfl) G_BadName rfl) pa_nil))) (pa_cons (pe_callB call_isV (by rfl) Z_isinstance (by decide +kernel) (pa_cons (pv 0) (pa_cons (pe_glob (v := .ref _) (by rfl) G_BadOrder rfl) pa_nil))) pa_nil)))))))
      (pss_one (ps_ret (pe_op op_cat (pv 1) (pe_lst (pa_cons (pe_callB call_isV (by rfl) Z_isinstance (by decide +kernel) (pa_cons (pv 0) (pa_cons (pe_glob (v := .ref _) (by rfl) G_NotNow rfl) pa_nil))) (pa_cons (pe_callB call_isV (by rfl) Z_isinstance (by decide +kernel) (pa_cons (pv 0) (pa_cons (pe_glob (v := .ref _) (by rfl) G_NoLine rfl) pa_nil))) (pa_cons (pe_callB call_isV (by rfl) Z_isinstance (by decide +kernel) (pa_cons (pv 0) (pa_cons (pe_glob (v := .ref _) (by rfl) G_NoBench rfl) pa_nil))) (pa_cons (pe_callB call_isV (by rfl) Z_isinstance (by decide +kernel) (pa_cons (pv 0) (pa_cons (pe_glob (v := .ref _) (by rfl) G_NothingDone rfl) pa_nil))) pa_nil))))))))))))))))), ?_⟩
    have hD := ex.cl
    walk_at "go"
    refine x_isV ex.ec ex.fs ec (kit k 0 _ _ hD rfl) ?_
    walk_at "go"
    refine x_isV ex.ec ex.fs ec (kit k 1 _ _ hD rfl) ?_
    walk_at "go"
    refine x_isV ex.ec ex.fs ec (kit k 2 _ _ hD rfl) ?_
    walk_at "go"
    refine x_isV ex.ec ex.fs ec (kit k 3 _ _ hD rfl) ?_
    walk_at "go"
    refine ⟨sz_le (by simp), fun A1 n1 => ?_⟩
    have s1 : L2.Same H (upd H A1 (.lst [V.bl (decide (k = 0)), V.bl (decide (k = 1)), V.bl (decide (k = 2)), V.bl (decide (k = 3))])) := same_new n1
    have l1 : (upd H A1 (.lst [V.bl (decide (k = 0)), V.bl (decide (k = 1)), V.bl (decide (k = 2)), V.bl (decide (k = 3))])) A1 = some (.lst [V.bl (decide (k = 0)), V.bl (decide (k = 1)), V.bl (decide (k = 2)), V.bl (decide (k = 3))]) := upd_same
    generalize upd H A1 (.lst [V.bl (decide (k = 0)), V.bl (decide (k = 1)), V.bl (decide (k = 2)), V.bl (decide (k = 3))]) = H1 at s1 l1 ⊢
    have ex1 := ex.same s1
    walk_at "go"
    refine x_isV ex1.ec ex1.fs ec (kit k 4 _ _ hD rfl) ?_
    walk_at "go"
    refine x_isV ex1.ec ex1.fs ec (kit k 5 _ _ hD rfl) ?_
    walk_at "go"
    refine x_isV ex1.ec ex1.fs ec (kit k 6 _ _ hD rfl) ?_
    walk_at "go"
    refine x_isV ex1.ec ex1.fs ec (kit k 7 _ _ hD rfl) ?_
    walk_at "go"
    refine ⟨sz_le (by simp), fun A2 n2 => ?_⟩
    have s2 : L2.Same H1 (upd H1 A2 (.lst [V.bl (decide (k = 4)), V.bl (decide (k = 5)), V.bl (decide (k = 6)), V.bl (decide (k = 7))])) := same_new n2
    have l2 : (upd H1 A2 (.lst [V.bl (decide (k = 4)), V.bl (decide (k = 5)), V.bl (decide (k = 6)), V.bl (decide (k = 7))])) A2 = some (.lst [V.bl (decide (k = 4)), V.bl (decide (k = 5)), V.bl (decide (k = 6)), V.bl (decide (k = 7))]) := upd_same
    generalize upd H1 A2 (.lst [V.bl (decide (k = 4)), V.bl (decide (k = 5)), V.bl (decide (k = 6)), V.bl (decide (k = 7))]) = H2 at s2 l2 ⊢
    have ex2 := ex1.same s2
    walk_at "go"
    refine x_catL (s2 _ _ l1) l2 (by simp) fun A3 n3 => ?_
    have s3 : L2.Same H2 (upd H2 A3 (.lst ([V.bl (decide (k = 0)), V.bl (decide (k = 1)), V.bl (decide (k = 2)), V.bl (decide (k = 3))] ++ [V.bl (decide (k = 4)), V.bl (decide (k = 5)), V.bl (decide (k = 6)), V.bl (decide (k = 7))]))) := same_new n3
    have l3 : (upd H2 A3 (.lst ([V.bl (decide (k = 0)), V.bl (decide (k = 1)), V.bl (decide (k = 2)), V.bl (decide (k = 3))] ++ [V.bl (decide (k = 4)), V.bl (decide (k = 5)), V.bl (decide (k = 6)), V.bl (decide (k = 7))]))) A3 = some (.lst ([V.bl (decide (k = 0)), V.bl (decide (k = 1)), V.bl (decide (k = 2)), V.bl (decide (k = 3))] ++ [V.bl (decide (k = 4)), V.bl (decide (k = 5)), V.bl (decide (k = 6)), V.bl (decide (k = 7))])) := upd_same
    have f3 : H2 A3 = none := n3
    generalize upd H2 A3 (.lst ([V.bl (decide (k = 0)), V.bl (decide (k = 1)), V.bl (decide (k = 2)), V.bl (decide (k = 3))] ++ [V.bl (decide (k = 4)), V.bl (decide (k = 5)), V.bl (decide (k = 6)), V.bl (decide (k = 7))])) = H3 at s3 l3 ⊢
    have ex3 := ex2.same s3
    walk_at "go"
    refine x_isV ex3.ec ex3.fs ec (kit k 8 _ _ hD rfl) ?_
    walk_at "go"
    refine x_isV ex3.ec ex3.fs ec (kit k 9 _ _ hD rfl) ?_
    walk_at "go"
    refine x_isV ex3.ec ex3.fs ec (kit k 10 _ _ hD rfl) ?_
    walk_at "go"
    refine x_isV ex3.ec ex3.fs ec (kit k 11 _ _ hD rfl) ?_
    walk_at "go"
    refine ⟨sz_le (by simp), fun A4 n4 => ?_⟩
    have s4 : L2.Same H3 (upd H3 A4 (.lst [V.bl (decide (k = 8)), V.bl (decide (k = 9)), V.bl (decide (k = 10)), V.bl (decide (k = 11))])) := same_new n4
    have l4 : (upd H3 A4 (.lst [V.bl (decide (k = 8)), V.bl (decide (k = 9)), V.bl (decide (k = 10)), V.bl (decide (k = 11))])) A4 = some (.lst [V.bl (decide (k = 8)), V.bl (decide (k = 9)), V.bl (decide (k = 10)), V.bl (decide (k = 11))]) := upd_same
    generalize upd H3 A4 (.lst [V.bl (decide (k = 8)), V.bl (decide (k = 9)), V.bl (decide (k = 10)), V.bl (decide (k = 11))]) = H4 at s4 l4 ⊢
    have ex4 := ex3.same s4
    walk_at "go"
    refine x_catL (s4 _ _ l3) l4 (by simp) fun A5 n5 => ?_
    have s5 : L2.Same H4 (upd H4 A5 (.lst (([V.bl (decide (k = 0)), V.bl (decide (k = 1)), V.bl (decide (k = 2)), V.bl (decide (k = 3))] ++ [V.bl (decide (k = 4)), V.bl (decide (k = 5)), V.bl (decide (k = 6)), V.bl (decide (k = 7))]) ++ [V.bl (decide (k = 8)), V.bl (decide (k = 9)), V.bl (decide (k = 10)), V.bl (decide (k = 11))]))) := same_new n5
    have l5 : (upd H4 A5 (.lst (([V.bl (decide (k = 0)), V.bl (decide (k = 1)), V.bl (decide (k = 2)), V.bl (decide (k = 3))] ++ [V.bl (decide (k = 4)), V.bl (decide (k = 5)), V.bl (decide (k = 6)), V.bl (decide (k = 7))]) ++ [V.bl (decide (k = 8)), V.bl (decide (k = 9)), V.bl (decide (k = 10)), V.bl (decide (k = 11))]))) A5 = some (.lst (([V.bl (decide (k = 0)), V.bl (decide (k = 1)), V.bl (decide (k = 2)), V.bl (decide (k = 3))] ++ [V.bl (decide (k = 4)), V.bl (decide (k = 5)), V.bl (decide (k = 6)), V.bl (decide (k = 7))]) ++ [V.bl (decide (k = 8)), V.bl (decide (k = 9)), V.bl (decide (k = 10)), V.bl (decide (k = 11))])) := upd_same
    have f5 : H4 A5 = none := n5
    generalize upd H4 A5 (.lst (([V.bl (decide (k = 0)), V.bl (decide (k = 1)), V.bl (decide (k = 2)), V.bl (decide (k = 3))] ++ [V.bl (decide (k = 4)), V.bl (decide (k = 5)), V.bl (decide (k = 6)), V.bl (decide (k = 7))]) ++ [V.bl (decide (k = 8)), V.bl (decide (k = 9)), V.bl (decide (k = 10)), V.bl (decide (k = 11))])) = H5 at s5 l5 ⊢
    have ex5 := ex4.same s5
    walk_at "go"
    refine x_isV ex5.ec ex5.fs ec (kit k 12 _ _ hD rfl) ?_
    walk_at "go"
    refine x_isV ex5.ec ex5.fs ec (kit k 13 _ _ hD rfl) ?_
    walk_at "go"
    refine x_isV ex5.ec ex5.fs ec (kit k 14 _ _ hD rfl) ?_
    walk_at "go"
    refine ⟨sz_le (by simp), fun A6 n6 => ?_⟩
    have s6 : L2.Same H5 (upd H5 A6 (.lst [V.bl (decide (k = 12)), V.bl (decide (k = 13)), V.bl (decide (k = 14))])) := same_new n6
    have l6 : (upd H5 A6 (.lst [V.bl (decide (k = 12)), V.bl (decide (k = 13)), V.bl (decide (k = 14))])) A6 = some (.lst [V.bl (decide (k = 12)), V.bl (decide (k = 13)), V.bl (decide (k = 14))]) := upd_same
    generalize upd H5 A6 (.lst [V.bl (decide (k = 12)), V.bl (decide (k = 13)), V.bl (decide (k = 14))]) = H6 at s6 l6 ⊢
    have ex6 := ex5.same s6
    walk_at "go"
    refine x_catL (s6 _ _ l5) l6 (by simp) fun A7 n7 => ?_
    have s7 : L2.Same H6 (upd H6 A7 (.lst ((([V.bl (decide (k = 0)), V.bl (decide (k = 1)), V.bl (decide (k = 2)), V.bl (decide (k = 3))] ++ [V.bl (decide (k = 4)), V.bl (decide (k = 5)), V.bl (decide (k = 6)), V.bl (decide (k = 7))]) ++ [V.bl (decide (k = 8)), V.bl (decide (k = 9)), V.bl (decide (k = 10)), V.bl (decide (k = 11))]) ++ [V.bl (decide (k = 12)), V.bl (decide (k = 13)), V.bl (decide (k = 14))]))) := same_new n7
    have l7 : (upd H6 A7 (.lst ((([V.bl (decide (k = 0)), V.bl (decide (k = 1)), V.bl (decide (k = 2)), V.bl (decide (k = 3))] ++ [V.bl (decide (k = 4)), V.bl (decide (k = 5)), V.bl (decide (k = 6)), V.bl (decide (k = 7))]) ++ [V.bl (decide (k = 8)), V.bl (decide (k = 9)), V.bl (decide (k = 10)), V.bl (decide (k = 11))]) ++ [V.bl (decide (k = 12)), V.bl (decide (k = 13)), V.bl (decide (k = 14))]))) A7 = some (.lst ((([V.bl (decide (k = 0)), V.bl (decide (k = 1)), V.bl (decide (k = 2)), V.bl (decide (k = 3))] ++ [V.bl (decide (k = 4)), V.bl (decide (k = 5)), V.bl (decide (k = 6)), V.bl (decide (k = 7))]) ++ [V.bl (decide (k = 8)), V.bl (decide (k = 9)), V.bl (decide (k = 10)), V.bl (decide (k = 11))]) ++ [V.bl (decide (k = 12)), V.bl (decide (k = 13)), V.bl (decide (k = 14))])) := upd_same
    have f7 : H6 A7 = none := n7
    generalize upd H6 A7 (.lst ((([V.bl (decide (k = 0)), V.bl (decide (k = 1)), V.bl (decide (k = 2)), V.bl (decide (k = 3))] ++ [V.bl (decide (k = 4)), V.bl (decide (k = 5)), V.bl (decide (k = 6)), V.bl (decide (k = 7))]) ++ [V.bl (decide (k = 8)), V.bl (decide (k = 9)), V.bl (decide (k = 10)), V.bl (decide (k = 11))]) ++ [V.bl (decide (k = 12)), V.bl (decide (k = 13)), V.bl (decide (k = 14))])) = H7 at s7 l7 ⊢
    have ex7 := ex6.same s7
    walk_at "go"
    refine x_isV ex7.ec ex7.fs ec (kit k 15 _ _ hD rfl) ?_
    walk_at "go"
    refine x_isV ex7.ec ex7.fs ec (kit k 16 _ _ hD rfl) ?_
    walk_at "go"
    refine x_isV ex7.ec ex7.fs ec (kit k 17 _ _ hD rfl) ?_
    walk_at "go"
    refine ⟨sz_le (by simp), fun A8 n8 => ?_⟩
    have s8 : L2.Same H7 (upd H7 A8 (.lst [V.bl (decide (k = 15)), V.bl (decide (k = 16)), V.bl (decide (k = 17))])) := same_new n8
    have l8 : (upd H7 A8 (.lst [V.bl (decide (k = 15)), V.bl (decide (k = 16)), V.bl (decide (k = 17))])) A8 = some (.lst [V.bl (decide (k = 15)), V.bl (decide (k = 16)), V.bl (decide (k = 17))]) := upd_same
    generalize upd H7 A8 (.lst [V.bl (decide (k = 15)), V.bl (decide (k = 16)), V.bl (decide (k = 17))]) = H8 at s8 l8 ⊢
    have ex8 := ex7.same s8
    walk_at "go"
    refine x_catL (s8 _ _ l7) l8 (by simp) fun A9 n9 => ?_
    have s9 : L2.Same H8 (upd H8 A9 (.lst (((([V.bl (decide (k = 0)), V.bl (decide (k = 1)), V.bl (decide (k = 2)), V.bl (decide (k = 3))] ++ [V.bl (decide (k = 4)), V.bl (decide (k = 5)), V.bl (decide (k = 6)), V.bl (decide (k = 7))]) ++ [V.bl (decide (k = 8)), V.bl (decide (k = 9)), V.bl (decide (k = 10)), V.bl (decide (k = 11))]) ++ [V.bl (decide (k = 12)), V.bl (decide (k = 13)), V.bl (decide (k = 14))]) ++ [V.bl (decide (k = 15)), V.bl (decide (k = 16)), V.bl (decide (k = 17))]))) := same_new n9
    have l9 : (upd H8 A9 (.lst (((([V.bl (decide (k = 0)), V.bl (decide (k = 1)), V.bl (decide (k = 2)), V.bl (decide (k = 3))] ++ [V.bl (decide (k = 4)), V.bl (decide (k = 5)), V.bl (decide (k = 6)), V.bl (decide (k = 7))]) ++ [V.bl (decide (k = 8)), V.bl (decide (k = 9)), V.bl (decide (k = 10)), V.bl (decide (k = 11))]) ++ [V.bl (decide (k = 12)), V.bl (decide (k = 13)), V.bl (decide (k = 14))]) ++ [V.bl (decide (k = 15)), V.bl (decide (k = 16)), V.bl (decide (k = 17))]))) A9 = some (.lst (((([V.bl (decide (k = 0)), V.bl (decide (k = 1)), V.bl (decide (k = 2)), V.bl (decide (k = 3))] ++ [V.bl (decide (k = 4)), V.bl (decide (k = 5)), V.bl (decide (k = 6)), V.bl (decide (k = 7))]) ++ [V.bl (decide (k = 8)), V.bl (decide (k = 9)), V.bl (decide (k = 10)), V.bl (decide (k = 11))]) ++ [V.bl (decide (k = 12)), V.bl (decide (k = 13)), V.bl (decide (k = 14))]) ++ [V.bl (decide (k = 15)), V.bl (decide (k = 16)), V.bl (decide (k = 17))])) := upd_same
    have f9 : H8 A9 = none := n9
    generalize upd H8 A9 (.lst (((([V.bl (decide (k = 0)), V.bl (decide (k = 1)), V.bl (decide (k = 2)), V.bl (decide (k = 3))] ++ [V.bl (decide (k = 4)), V.bl (decide (k = 5)), V.bl (decide (k = 6)), V.bl (decide (k = 7))]) ++ [V.bl (decide (k = 8)), V.bl (decide (k = 9)), V.bl (decide (k = 10)), V.bl (decide (k = 11))]) ++ [V.bl (decide (k = 12)), V.bl (decide (k = 13)), V.bl (decide (k = 14))]) ++ [V.bl (decide (k = 15)), V.bl (decide (k = 16)), V.bl (decide (k = 17))])) = H9 at s9 l9 ⊢
    have ex9 := ex8.same s9
    walk_at "go"
    refine x_isV ex9.ec ex9.fs ec (kit k 18 _ _ hD rfl) ?_
    walk_at "go"
    refine x_isV ex9.ec ex9.fs ec (kit k 19 _ _ hD rfl) ?_
    walk_at "go"
    refine x_isV ex9.ec ex9.fs ec (kit k 20 _ _ hD rfl) ?_
    walk_at "go"
    refine ⟨sz_le (by simp), fun A10 n10 => ?_⟩
    have s10 : L2.Same H9 (upd H9 A10 (.lst [V.bl (decide (k = 18)), V.bl (decide (k = 19)), V.bl (decide (k = 20))])) := same_new n10
    have l10 : (upd H9 A10 (.lst [V.bl (decide (k = 18)), V.bl (decide (k = 19)), V.bl (decide (k = 20))])) A10 = some (.lst [V.bl (decide (k = 18)), V.bl (decide (k = 19)), V.bl (decide (k = 20))]) := upd_same
    generalize upd H9 A10 (.lst [V.bl (decide (k = 18)), V.bl (decide (k = 19)), V.bl (decide (k = 20))]) = H10 at s10 l10 ⊢
    have ex10 := ex9.same s10
    walk_at "go"
    refine x_catL (s10 _ _ l9) l10 (by simp) fun A11 n11 => ?_
    have s11 : L2.Same H10 (upd H10 A11 (.lst ((((([V.bl (decide (k = 0)), V.bl (decide (k = 1)), V.bl (decide (k = 2)), V.bl (decide (k = 3))] ++ [V.bl (decide (k = 4)), V.bl (decide (k = 5)), V.bl (decide (k = 6)), V.bl (decide (k = 7))]) ++ [V.bl (decide (k = 8)), V.bl (decide (k = 9)), V.bl (decide (k = 10)), V.bl (decide (k = 11))]) ++ [V.bl (decide (k = 12)), V.bl (decide (k = 13)), V.bl (decide (k = 14))]) ++ [V.bl (decide (k = 15)), V.bl (decide (k = 16)), V.bl (decide (k = 17))]) ++ [V.bl (decide (k = 18)), V.bl (decide (k = 19)), V.bl (decide (k = 20))]))) := same_new n11
    have l11 : (upd H10 A11 (.lst ((((([V.bl (decide (k = 0)), V.bl (decide (k = 1)), V.bl (decide (k = 2)), V.bl (decide (k = 3))] ++ [V.bl (decide (k = 4)), V.bl (decide (k = 5)), V.bl (decide (k = 6)), V.bl (decide (k = 7))]) ++ [V.bl (decide (k = 8)), V.bl (decide (k = 9)), V.bl (decide (k = 10)), V.bl (decide (k = 11))]) ++ [V.bl (decide (k = 12)), V.bl (decide (k = 13)), V.bl (decide (k = 14))]) ++ [V.bl (decide (k = 15)), V.bl (decide (k = 16)), V.bl (decide (k = 17))]) ++ [V.bl (decide (k = 18)), V.bl (decide (k = 19)), V.bl (decide (k = 20))]))) A11 = some (.lst ((((([V.bl (decide (k = 0)), V.bl (decide (k = 1)), V.bl (decide (k = 2)), V.bl (decide (k = 3))] ++ [V.bl (decide (k = 4)), V.bl (decide (k = 5)), V.bl (decide (k = 6)), V.bl (decide (k = 7))]) ++ [V.bl (decide (k = 8)), V.bl (decide (k = 9)), V.bl (decide (k = 10)), V.bl (decide (k = 11))]) ++ [V.bl (decide (k = 12)), V.bl (decide (k = 13)), V.bl (decide (k = 14))]) ++ [V.bl (decide (k = 15)), V.bl (decide (k = 16)), V.bl (decide (k = 17))]) ++ [V.bl (decide (k = 18)), V.bl (decide (k = 19)), V.bl (decide (k = 20))])) := upd_same
    have f11 : H10 A11 = none := n11
    generalize upd H10 A11 (.lst ((((([V.bl (decide (k = 0)), V.bl (decide (k = 1)), V.bl (decide (k = 2)), V.bl (decide (k = 3))] ++ [V.bl (decide (k = 4)), V.bl (decide (k = 5)), V.bl (decide (k = 6)), V.bl (decide (k = 7))]) ++ [V.bl (decide (k = 8)), V.bl (decide (k = 9)), V.bl (decide (k = 10)), V.bl (decide (k = 11))]) ++ [V.bl (decide (k = 12)), V.bl (decide (k = 13)), V.bl (decide (k = 14))]) ++ [V.bl (decide (k = 15)), V.bl (decide (k = 16)), V.bl (decide (k = 17))]) ++ [V.bl (decide (k = 18)), V.bl (decide (k = 19)), V.bl (decide (k = 20))])) = H11 at s11 l11 ⊢
    have ex11 := ex10.same s11
    walk_at "go"
    refine x_isV ex11.ec ex11.fs ec (kit k 21 _ _ hD rfl) ?_
    walk_at "go"
    refine x_isV ex11.ec ex11.fs ec (kit k 22 _ _ hD rfl) ?_
    walk_at "go"
    refine x_isV ex11.ec ex11.fs ec (kit k 23 _ _ hD rfl) ?_
    walk_at "go"
    refine ⟨sz_le (by simp), fun A12 n12 => ?_⟩
    have s12 : L2.Same H11 (upd H11 A12 (.lst [V.bl (decide (k = 21)), V.bl (decide (k = 22)), V.bl (decide (k = 23))])) := same_new n12
    have l12 : (upd H11 A12 (.lst [V.bl (decide (k = 21)), V.bl (decide (k = 22)), V.bl (decide (k = 23))])) A12 = some (.lst [V.bl (decide (k = 21)), V.bl (decide (k = 22)), V.bl (decide (k = 23))]) := upd_same
    generalize upd H11 A12 (.lst [V.bl (decide (k = 21)), V.bl (decide (k = 22)), V.bl (decide (k = 23))]) = H12 at s12 l12 ⊢
    have ex12 := ex11.same s12
    walk_at "go"
    refine x_catL (s12 _ _ l11) l12 (by simp) fun A13 n13 => ?_
    have s13 : L2.Same H12 (upd H12 A13 (.lst (((((([V.bl (decide (k = 0)), V.bl (decide (k = 1)), V.bl (decide (k = 2)), V.bl (decide (k = 3))] ++ [V.bl (decide (k = 4)), V.bl (decide (k = 5)), V.bl (decide (k = 6)), V.bl (decide (k = 7))]) ++ [V.bl (decide (k = 8)), V.bl (decide (k = 9)), V.bl (decide (k = 10)), V.bl (decide (k = 11))]) ++ [V.bl (decide (k = 12)), V.bl (decide (k = 13)), V.bl (decide (k = 14))]) ++ [V.bl (decide (k = 15)), V.bl (decide (k = 16)), V.bl (decide (k = 17))]) ++ [V.bl (decide (k = 18)), V.bl (decide (k = 19)), V.bl (decide (k = 20))]) ++ [V.bl (decide (k = 21)), V.bl (decide (k = 22)), V.bl (decide (k = 23))]))) := same_new n13
    have l13 : (upd H12 A13 (.lst (((((([V.bl (decide (k = 0)), V.bl (decide (k = 1)), V.bl (decide (k = 2)), V.bl (decide (k = 3))] ++ [V.bl (decide (k = 4)), V.bl (decide (k = 5)), V.bl (decide (k = 6)), V.bl (decide (k = 7))]) ++ [V.bl (decide (k = 8)), V.bl (decide (k = 9)), V.bl (decide (k = 10)), V.bl (decide (k = 11))]) ++ [V.bl (decide (k = 12)), V.bl (decide (k = 13)), V.bl (decide (k = 14))]) ++ [V.bl (decide (k = 15)), V.bl (decide (k = 16)), V.bl (decide (k = 17))]) ++ [V.bl (decide (k = 18)), V.bl (decide (k = 19)), V.bl (decide (k = 20))]) ++ [V.bl (decide (k = 21)), V.bl (decide (k = 22)), V.bl (decide (k = 23))]))) A13 = some (.lst (((((([V.bl (decide (k = 0)), V.bl (decide (k = 1)), V.bl (decide (k = 2)), V.bl (decide (k = 3))] ++ [V.bl (decide (k = 4)), V.bl (decide (k = 5)), V.bl (decide (k = 6)), V.bl (decide (k = 7))]) ++ [V.bl (decide (k = 8)), V.bl (decide (k = 9)), V.bl (decide (k = 10)), V.bl (decide (k = 11))]) ++ [V.bl (decide (k = 12)), V.bl (decide (k = 13)), V.bl (decide (k = 14))]) ++ [V.bl (decide (k = 15)), V.bl (decide (k = 16)), V.bl (decide (k = 17))]) ++ [V.bl (decide (k = 18)), V.bl (decide (k = 19)), V.bl (decide (k = 20))]) ++ [V.bl (decide (k = 21)), V.bl (decide (k = 22)), V.bl (decide (k = 23))])) := upd_same
    have f13 : H12 A13 = none := n13
    generalize upd H12 A13 (.lst (((((([V.bl (decide (k = 0)), V.bl (decide (k = 1)), V.bl (decide (k = 2)), V.bl (decide (k = 3))] ++ [V.bl (decide (k = 4)), V.bl (decide (k = 5)), V.bl (decide (k = 6)), V.bl (decide (k = 7))]) ++ [V.bl (decide (k = 8)), V.bl (decide (k = 9)), V.bl (decide (k = 10)), V.bl (decide (k = 11))]) ++ [V.bl (decide (k = 12)), V.bl (decide (k = 13)), V.bl (decide (k = 14))]) ++ [V.bl (decide (k = 15)), V.bl (decide (k = 16)), V.bl (decide (k = 17))]) ++ [V.bl (decide (k = 18)), V.bl (decide (k = 19)), V.bl (decide (k = 20))]) ++ [V.bl (decide (k = 21)), V.bl (decide (k = 22)), V.bl (decide (k = 23))])) = H13 at s13 l13 ⊢
    have ex13 := ex12.same s13
    walk_at "go"
    refine x_isV ex13.ec ex13.fs ec (kit k 24 _ _ hD rfl) ?_
    walk_at "go"
    refine x_isV ex13.ec ex13.fs ec (kit k 25 _ _ hD rfl) ?_
    walk_at "go"
    refine x_isV ex13.ec ex13.fs ec (kit k 26 _ _ hD rfl) ?_
    walk_at "go"
    refine x_isV ex13.ec ex13.fs ec (kit k 27 _ _ hD rfl) ?_
    walk_at "go"
    refine ⟨sz_le (by simp), fun A14 n14 => ?_⟩
    have s14 : L2.Same H13 (upd H13 A14 (.lst [V.bl (decide (k = 24)), V.bl (decide (k = 25)), V.bl (decide (k = 26)), V.bl (decide (k = 27))])) := same_new n14
    have l14 : (upd H13 A14 (.lst [V.bl (decide (k = 24)), V.bl (decide (k = 25)), V.bl (decide (k = 26)), V.bl (decide (k = 27))])) A14 = some (.lst [V.bl (decide (k = 24)), V.bl (decide (k = 25)), V.bl (decide (k = 26)), V.bl (decide (k = 27))]) := upd_same
    generalize upd H13 A14 (.lst [V.bl (decide (k = 24)), V.bl (decide (k = 25)), V.bl (decide (k = 26)), V.bl (decide (k = 27))]) = H14 at s14 l14 ⊢
    have ex14 := ex13.same s14
    walk_at "go"
    refine x_catL (s14 _ _ l13) l14 (by simp) fun A15 n15 => ?_
    have s15 : L2.Same H14 (upd H14 A15 (.lst ((((((([V.bl (decide (k = 0)), V.bl (decide (k = 1)), V.bl (decide (k = 2)), V.bl (decide (k = 3))] ++ [V.bl (decide (k = 4)), V.bl (decide (k = 5)), V.bl (decide (k = 6)), V.bl (decide (k = 7))]) ++ [V.bl (decide (k = 8)), V.bl (decide (k = 9)), V.bl (decide (k = 10)), V.bl (decide (k = 11))]) ++ [V.bl (decide (k = 12)), V.bl (decide (k = 13)), V.bl (decide (k = 14))]) ++ [V.bl (decide (k = 15)), V.bl (decide (k = 16)), V.bl (decide (k = 17))]) ++ [V.bl (decide (k = 18)), V.bl (decide (k = 19)), V.bl (decide (k = 20))]) ++ [V.bl (decide (k = 21)), V.bl (decide (k = 22)), V.bl (decide (k = 23))]) ++ [V.bl (decide (k = 24)), V.bl (decide (k = 25)), V.bl (decide (k = 26)), V.bl (decide (k = 27))]))) := same_new n15
    have l15 : (upd H14 A15 (.lst ((((((([V.bl (decide (k = 0)), V.bl (decide (k = 1)), V.bl (decide (k = 2)), V.bl (decide (k = 3))] ++ [V.bl (decide (k = 4)), V.bl (decide (k = 5)), V.bl (decide (k = 6)), V.bl (decide (k = 7))]) ++ [V.bl (decide (k = 8)), V.bl (decide (k = 9)), V.bl (decide (k = 10)), V.bl (decide (k = 11))]) ++ [V.bl (decide (k = 12)), V.bl (decide (k = 13)), V.bl (decide (k = 14))]) ++ [V.bl (decide (k = 15)), V.bl (decide (k = 16)), V.bl (decide (k = 17))]) ++ [V.bl (decide (k = 18)), V.bl (decide (k = 19)), V.bl (decide (k = 20))]) ++ [V.bl (decide (k = 21)), V.bl (decide (k = 22)), V.bl (decide (k = 23))]) ++ [V.bl (decide (k = 24)), V.bl (decide (k = 25)), V.bl (decide (k = 26)), V.bl (decide (k = 27))]))) A15 = some (.lst ((((((([V.bl (decide (k = 0)), V.bl (decide (k = 1)), V.bl (decide (k = 2)), V.bl (decide (k = 3))] ++ [V.bl (decide (k = 4)), V.bl (decide (k = 5)), V.bl (decide (k = 6)), V.bl (decide (k = 7))]) ++ [V.bl (decide (k = 8)), V.bl (decide (k = 9)), V.bl (decide (k = 10)), V.bl (decide (k = 11))]) ++ [V.bl (decide (k = 12)), V.bl (decide (k = 13)), V.bl (decide (k = 14))]) ++ [V.bl (decide (k = 15)), V.bl (decide (k = 16)), V.bl (decide (k = 17))]) ++ [V.bl (decide (k = 18)), V.bl (decide (k = 19)), V.bl (decide (k = 20))]) ++ [V.bl (decide (k = 21)), V.bl (decide (k = 22)), V.bl (decide (k = 23))]) ++ [V.bl (decide (k = 24)), V.bl (decide (k = 25)), V.bl (decide (k = 26)), V.bl (decide (k = 27))])) := upd_same
    have f15 : H14 A15 = none := n15
    generalize upd H14 A15 (.lst ((((((([V.bl (decide (k = 0)), V.bl (decide (k = 1)), V.bl (decide (k = 2)), V.bl (decide (k = 3))] ++ [V.bl (decide (k = 4)), V.bl (decide (k = 5)), V.bl (decide (k = 6)), V.bl (decide (k = 7))]) ++ [V.bl (decide (k = 8)), V.bl (decide (k = 9)), V.bl (decide (k = 10)), V.bl (decide (k = 11))]) ++ [V.bl (decide (k = 12)), V.bl (decide (k = 13)), V.bl (decide (k = 14))]) ++ [V.bl (decide (k = 15)), V.bl (decide (k = 16)), V.bl (decide (k = 17))]) ++ [V.bl (decide (k = 18)), V.bl (decide (k = 19)), V.bl (decide (k = 20))]) ++ [V.bl (decide (k = 21)), V.bl (decide (k = 22)), V.bl (decide (k = 23))]) ++ [V.bl (decide (k = 24)), V.bl (decide (k = 25)), V.bl (decide (k = 26)), V.bl (decide (k = 27))])) = H15 at s15 l15 ⊢
    have ex15 := ex14.same s15
    walk_at "go"
    refine x_isV ex15.ec ex15.fs ec (kit k 28 _ _ hD rfl) ?_
    walk_at "go"
    refine x_isV ex15.ec ex15.fs ec (kit k 29 _ _ hD rfl) ?_
    walk_at "go"
    refine x_isV ex15.ec ex15.fs ec (kit k 30 _ _ hD rfl) ?_
    walk_at "go"
    refine x_isV ex15.ec ex15.fs ec (kit k 31 _ _ hD rfl) ?_
    walk_at "go"
    refine ⟨sz_le (by simp), fun A16 n16 => ?_⟩
    have s16 : L2.Same H15 (upd H15 A16 (.lst [V.bl (decide (k = 28)), V.bl (decide (k = 29)), V.bl (decide (k = 30)), V.bl (decide (k = 31))])) := same_new n16
    have l16 : (upd H15 A16 (.lst [V.bl (decide (k = 28)), V.bl (decide (k = 29)), V.bl (decide (k = 30)), V.bl (decide (k = 31))])) A16 = some (.lst [V.bl (decide (k = 28)), V.bl (decide (k = 29)), V.bl (decide (k = 30)), V.bl (decide (k = 31))]) := upd_same
    generalize upd H15 A16 (.lst [V.bl (decide (k = 28)), V.bl (decide (k = 29)), V.bl (decide (k = 30)), V.bl (decide (k = 31))]) = H16 at s16 l16 ⊢
    have ex16 := ex15.same s16
    walk_at "go"
    refine x_catL (s16 _ _ l15) l16 (by simp) fun A17 n17 => ?_
    have s17 : L2.Same H16 (upd H16 A17 (.lst (((((((([V.bl (decide (k = 0)), V.bl (decide (k = 1)), V.bl (decide (k = 2)), V.bl (decide (k = 3))] ++ [V.bl (decide (k = 4)), V.bl (decide (k = 5)), V.bl (decide (k = 6)), V.bl (decide (k = 7))]) ++ [V.bl (decide (k = 8)), V.bl (decide (k = 9)), V.bl (decide (k = 10)), V.bl (decide (k = 11))]) ++ [V.bl (decide (k = 12)), V.bl (decide (k = 13)), V.bl (decide (k = 14))]) ++ [V.bl (decide (k = 15)), V.bl (decide (k = 16)), V.bl (decide (k = 17))]) ++ [V.bl (decide (k = 18)), V.bl (decide (k = 19)), V.bl (decide (k = 20))]) ++ [V.bl (decide (k = 21)), V.bl (decide (k = 22)), V.bl (decide (k = 23))]) ++ [V.bl (decide (k = 24)), V.bl (decide (k = 25)), V.bl (decide (k = 26)), V.bl (decide (k = 27))]) ++ [V.bl (decide (k = 28)), V.bl (decide (k = 29)), V.bl (decide (k = 30)), V.bl (decide (k = 31))]))) := same_new n17
    have l17 : (upd H16 A17 (.lst (((((((([V.bl (decide (k = 0)), V.bl (decide (k = 1)), V.bl (decide (k = 2)), V.bl (decide (k = 3))] ++ [V.bl (decide (k = 4)), V.bl (decide (k = 5)), V.bl (decide (k = 6)), V.bl (decide (k = 7))]) ++ [V.bl (decide (k = 8)), V.bl (decide (k = 9)), V.bl (decide (k = 10)), V.bl (decide (k = 11))]) ++ [V.bl (decide (k = 12)), V.bl (decide (k = 13)), V.bl (decide (k = 14))]) ++ [V.bl (decide (k = 15)), V.bl (decide (k = 16)), V.bl (decide (k = 17))]) ++ [V.bl (decide (k = 18)), V.bl (decide (k = 19)), V.bl (decide (k = 20))]) ++ [V.bl (decide (k = 21)), V.bl (decide (k = 22)), V.bl (decide (k = 23))]) ++ [V.bl (decide (k = 24)), V.bl (decide (k = 25)), V.bl (decide (k = 26)), V.bl (decide (k = 27))]) ++ [V.bl (decide (k = 28)), V.bl (decide (k = 29)), V.bl (decide (k = 30)), V.bl (decide (k = 31))]))) A17 = some (.lst (((((((([V.bl (decide (k = 0)), V.bl (decide (k = 1)), V.bl (decide (k = 2)), V.bl (decide (k = 3))] ++ [V.bl (decide (k = 4)), V.bl (decide (k = 5)), V.bl (decide (k = 6)), V.bl (decide (k = 7))]) ++ [V.bl (decide (k = 8)), V.bl (decide (k = 9)), V.bl (decide (k = 10)), V.bl (decide (k = 11))]) ++ [V.bl (decide (k = 12)), V.bl (decide (k = 13)), V.bl (decide (k = 14))]) ++ [V.bl (decide (k = 15)), V.bl (decide (k = 16)), V.bl (decide (k = 17))]) ++ [V.bl (decide (k = 18)), V.bl (decide (k = 19)), V.bl (decide (k = 20))]) ++ [V.bl (decide (k = 21)), V.bl (decide (k = 22)), V.bl (decide (k = 23))]) ++ [V.bl (decide (k = 24)), V.bl (decide (k = 25)), V.bl (decide (k = 26)), V.bl (decide (k = 27))]) ++ [V.bl (decide (k = 28)), V.bl (decide (k = 29)), V.bl (decide (k = 30)), V.bl (decide (k = 31))])) := upd_same
    have f17 : H16 A17 = none := n17
    generalize upd H16 A17 (.lst (((((((([V.bl (decide (k = 0)), V.bl (decide (k = 1)), V.bl (decide (k = 2)), V.bl (decide (k = 3))] ++ [V.bl (decide (k = 4)), V.bl (decide (k = 5)), V.bl (decide (k = 6)), V.bl (decide (k = 7))]) ++ [V.bl (decide (k = 8)), V.bl (decide (k = 9)), V.bl (decide (k = 10)), V.bl (decide (k = 11))]) ++ [V.bl (decide (k = 12)), V.bl (decide (k = 13)), V.bl (decide (k = 14))]) ++ [V.bl (decide (k = 15)), V.bl (decide (k = 16)), V.bl (decide (k = 17))]) ++ [V.bl (decide (k = 18)), V.bl (decide (k = 19)), V.bl (decide (k = 20))]) ++ [V.bl (decide (k = 21)), V.bl (decide (k = 22)), V.bl (decide (k = 23))]) ++ [V.bl (decide (k = 24)), V.bl (decide (k = 25)), V.bl (decide (k = 26)), V.bl (decide (k = 27))]) ++ [V.bl (decide (k = 28)), V.bl (decide (k = 29)), V.bl (decide (k = 30)), V.bl (decide (k = 31))])) = H17 at s17 l17 ⊢
    have ex17 := ex16.same s17
    walk_at "go"
    refine x_isV ex17.ec ex17.fs ec (kit k 32 _ _ hD rfl) ?_
    walk_at "go"
    refine x_isV ex17.ec ex17.fs ec (kit k 33 _ _ hD rfl) ?_
    walk_at "go"
    refine x_isV ex17.ec ex17.fs ec (kit k 34 _ _ hD rfl) ?_
    walk_at "go"
    refine x_isV ex17.ec ex17.fs ec (kit k 35 _ _ hD rfl) ?_
    walk_at "go"
    refine ⟨sz_le (by simp), fun A18 n18 => ?_⟩
    have s18 : L2.Same H17 (upd H17 A18 (.lst [V.bl (decide (k = 32)), V.bl (decide (k = 33)), V.bl (decide (k = 34)), V.bl (decide (k = 35))])) := same_new n18
    have l18 : (upd H17 A18 (.lst [V.bl (decide (k = 32)), V.bl (decide (k = 33)), V.bl (decide (k = 34)), V.bl (decide (k = 35))])) A18 = some (.lst [V.bl (decide (k = 32)), V.bl (decide (k = 33)), V.bl (decide (k = 34)), V.bl (decide (k = 35))]) := upd_same
    generalize upd H17 A18 (.lst [V.bl (decide (k = 32)), V.bl (decide (k = 33)), V.bl (decide (k = 34)), V.bl (decide (k = 35))]) = H18 at s18 l18 ⊢
    have ex18 := ex17.same s18
    walk_at "go"
    refine x_catL (s18 _ _ l17) l18 (by simp) fun A19 n19 => ?_
    have s19 : L2.Same H18 (upd H18 A19 (.lst ((((((((([V.bl (decide (k = 0)), V.bl (decide (k = 1)), V.bl (decide (k = 2)), V.bl (decide (k = 3))] ++ [V.bl (decide (k = 4)), V.bl (decide (k = 5)), V.bl (decide (k = 6)), V.bl (decide (k = 7))]) ++ [V.bl (decide (k = 8)), V.bl (decide (k = 9)), V.bl (decide (k = 10)), V.bl (decide (k = 11))]) ++ [V.bl (decide (k = 12)), V.bl (decide (k = 13)), V.bl (decide (k = 14))]) ++ [V.bl (decide (k = 15)), V.bl (decide (k = 16)), V.bl (decide (k = 17))]) ++ [V.bl (decide (k = 18)), V.bl (decide (k = 19)), V.bl (decide (k = 20))]) ++ [V.bl (decide (k = 21)), V.bl (decide (k = 22)), V.bl (decide (k = 23))]) ++ [V.bl (decide (k = 24)), V.bl (decide (k = 25)), V.bl (decide (k = 26)), V.bl (decide (k = 27))]) ++ [V.bl (decide (k = 28)), V.bl (decide (k = 29)), V.bl (decide (k = 30)), V.bl (decide (k = 31))]) ++ [V.bl (decide (k = 32)), V.bl (decide (k = 33)), V.bl (decide (k = 34)), V.bl (decide (k = 35))]))) := same_new n19
    have l19 : (upd H18 A19 (.lst ((((((((([V.bl (decide (k = 0)), V.bl (decide (k = 1)), V.bl (decide (k = 2)), V.bl (decide (k = 3))] ++ [V.bl (decide (k = 4)), V.bl (decide (k = 5)), V.bl (decide (k = 6)), V.bl (decide (k = 7))]) ++ [V.bl (decide (k = 8)), V.bl (decide (k = 9)), V.bl (decide (k = 10)), V.bl (decide (k = 11))]) ++ [V.bl (decide (k = 12)), V.bl (decide (k = 13)), V.bl (decide (k = 14))]) ++ [V.bl (decide (k = 15)), V.bl (decide (k = 16)), V.bl (decide (k = 17))]) ++ [V.bl (decide (k = 18)), V.bl (decide (k = 19)), V.bl (decide (k = 20))]) ++ [V.bl (decide (k = 21)), V.bl (decide (k = 22)), V.bl (decide (k = 23))]) ++ [V.bl (decide (k = 24)), V.bl (decide (k = 25)), V.bl (decide (k = 26)), V.bl (decide (k = 27))]) ++ [V.bl (decide (k = 28)), V.bl (decide (k = 29)), V.bl (decide (k = 30)), V.bl (decide (k = 31))]) ++ [V.bl (decide (k = 32)), V.bl (decide (k = 33)), V.bl (decide (k = 34)), V.bl (decide (k = 35))]))) A19 = some (.lst ((((((((([V.bl (decide (k = 0)), V.bl (decide (k = 1)), V.bl (decide (k = 2)), V.bl (decide (k = 3))] ++ [V.bl (decide (k = 4)), V.bl (decide (k = 5)), V.bl (decide (k = 6)), V.bl (decide (k = 7))]) ++ [V.bl (decide (k = 8)), V.bl (decide (k = 9)), V.bl (decide (k = 10)), V.bl (decide (k = 11))]) ++ [V.bl (decide (k = 12)), V.bl (decide (k = 13)), V.bl (decide (k = 14))]) ++ [V.bl (decide (k = 15)), V.bl (decide (k = 16)), V.bl (decide (k = 17))]) ++ [V.bl (decide (k = 18)), V.bl (decide (k = 19)), V.bl (decide (k = 20))]) ++ [V.bl (decide (k = 21)), V.bl (decide (k = 22)), V.bl (decide (k = 23))]) ++ [V.bl (decide (k = 24)), V.bl (decide (k = 25)), V.bl (decide (k = 26)), V.bl (decide (k = 27))]) ++ [V.bl (decide (k = 28)), V.bl (decide (k = 29)), V.bl (decide (k = 30)), V.bl (decide (k = 31))]) ++ [V.bl (decide (k = 32)), V.bl (decide (k = 33)), V.bl (decide (k = 34)), V.bl (decide (k = 35))])) := upd_same
    have f19 : H18 A19 = none := n19
    generalize upd H18 A19 (.lst ((((((((([V.bl (decide (k = 0)), V.bl (decide (k = 1)), V.bl (decide (k = 2)), V.bl (decide (k = 3))] ++ [V.bl (decide (k = 4)), V.bl (decide (k = 5)), V.bl (decide (k = 6)), V.bl (decide (k = 7))]) ++ [V.bl (decide (k = 8)), V.bl (decide (k = 9)), V.bl (decide (k = 10)), V.bl (decide (k = 11))]) ++ [V.bl (decide (k = 12)), V.bl (decide (k = 13)), V.bl (decide (k = 14))]) ++ [V.bl (decide (k = 15)), V.bl (decide (k = 16)), V.bl (decide (k = 17))]) ++ [V.bl (decide (k = 18)), V.bl (decide (k = 19)), V.bl (decide (k = 20))]) ++ [V.bl (decide (k = 21)), V.bl (decide (k = 22)), V.bl (decide (k = 23))]) ++ [V.bl (decide (k = 24)), V.bl (decide (k = 25)), V.bl (decide (k = 26)), V.bl (decide (k = 27))]) ++ [V.bl (decide (k = 28)), V.bl (decide (k = 29)), V.bl (decide (k = 30)), V.bl (decide (k = 31))]) ++ [V.bl (decide (k = 32)), V.bl (decide (k = 33)), V.bl (decide (k = 34)), V.bl (decide (k = 35))])) = H19 at s19 l19 ⊢
    have ex19 := ex18.same s19
    try walk_at "go"
    exact q _ _ (s1.trans (s2.trans (s3.trans (s4.trans (s5.trans (s6.trans (s7.trans (s8.trans (s9.trans (s10.trans (s11.trans (s12.trans (s13.trans (s14.trans (s15.trans (s16.trans (s17.trans (s18.trans s19)))))))))))))))))) (((s1.trans (s2.trans (s3.trans (s4.trans (s5.trans (s6.trans (s7.trans (s8.trans (s9.trans (s10.trans (s11.trans (s12.trans (s13.trans (s14.trans (s15.trans (s16.trans (s17.trans s18)))))))))))))))))).free f19) l19
theorem ok_l_flagsW {f : Addr} {fd : FuncData} (F : Fun K "_law_flags" "_law_flags" s_l_flags f fd) (Z_isinstance : mg "isinstance" = none) (G_BadWork : mg "BadWork" = some (.ref X00)) (G_NoStand : mg "NoStand" = some (.ref X01)) (G_NoStep : mg "NoStep" = some (.ref X02)) (G_BadRun : mg "BadRun" = some (.ref X03)) (G_TooMany : mg "TooMany" = some (.ref X04)) (G_BadLog : mg "BadLog" = some (.ref X05)) (G_BadText : mg "BadText" = some (.ref X06)) (G_NoName : mg "NoName" = some (.ref X07)) (G_BadLot : mg "BadLot" = some (.ref X08)) (G_BadWish : mg "BadWish" = some (.ref X09)) (G_Unsuited : mg "Unsuited" = some (.ref X10)) (G_BadNumber : mg "BadNumber" = some (.ref X11)) (G_NoChance : mg "NoChance" = some (.ref X12)) (G_BadFraction : mg "BadFraction" = some (.ref X13)) (G_BadRing : mg "BadRing" = some (.ref X14)) (G_BadLooks : mg "BadLooks" = some (.ref X15)) (G_BadKnowledge : mg "BadKnowledge" = some (.ref X16)) (G_BadLook : mg "BadLook" = some (.ref X17)) (G_BadHand : mg "BadHand" = some (.ref X18)) (G_NoRun : mg "NoRun" = some (.ref X19)) (G_BadProgram : mg "BadProgram" = some (.ref X20)) (G_BadPrograms : mg "BadPrograms" = some (.ref X21)) (G_TooLarge : mg "TooLarge" = some (.ref X22)) (G_Ringed : mg "Ringed" = some (.ref X23)) (G_BadBook : mg "BadBook" = some (.ref X24)) (G_BadPrices : mg "BadPrices" = some (.ref X25)) (G_BadFalls : mg "BadFalls" = some (.ref X26)) (G_NoEnd : mg "NoEnd" = some (.ref X27)) (G_LastStep : mg "LastStep" = some (.ref X28)) (G_NoHand : mg "NoHand" = some (.ref X29)) (G_BadName : mg "BadName" = some (.ref X30)) (G_BadOrder : mg "BadOrder" = some (.ref X31)) (G_NotNow : mg "NotNow" = some (.ref X32)) (G_NoLine : mg "NoLine" = some (.ref X33)) (G_NoBench : mg "NoBench" = some (.ref X34)) (G_NothingDone : mg "NothingDone" = some (.ref X35)) (kit : KitAll K [X00, X01, X02, X03, X04, X05, X06, X07, X08, X09, X10, X11, X12, X13, X14, X15, X16, X17, X18, X19, X20, X21, X22, X23, X24, X25, X26, X27, X28, X29, X30, X31, X32, X33, X34, X35]) :
    FnW P w K mg base 2 f fd ["_law_e"] (spFlags K [X00, X01, X02, X03, X04, X05, X06, X07, X08, X09, X10, X11, X12, X13, X14, X15, X16, X17, X18, X19, X20, X21, X22, X23, X24, X25, X26, X27, X28, X29, X30, X31, X32, X33, X34, X35]) := by
  refine Fun.okW F sc_l_flags (fun vs H Q E h => ?_) (fun cdv A outer s H vs Q E hr h => ?_)
  · obtain ⟨_, _, _, _, _, rfl, _⟩ := h
    rfl
  · obtain ⟨k, x, a, D, d, rfl, ex, ec, q⟩ := h
    refine ⟨_, (pss_cons (ps_set (i := 1) sc_l_flags.nd rfl (Or.inl rfl) (pe_lst (pa_cons (pe_callB call_isV (by rfl) Z_isinstance (by decide +kernel) (pa_cons (pv 0) (pa_cons (pe_glob (v := .ref _) (by rfl) G_BadWork rfl) pa_nil))) (pa_cons (pe_callB call_isV (by rfl) Z_isinstance (by decide +kernel) (pa_cons (pv 0) (pa_cons (pe_glob (v := .ref _) (by rfl) G_NoStand rfl) pa_nil))) (pa_cons (pe_callB call_isV (by rfl) Z_isinstance (by decide +kernel) (pa_cons (pv 0) (pa_cons (pe_glob (v := .ref _) (by rfl) G_NoStep rfl) pa_nil))) (pa_cons (pe_callB call_isV (by rfl) Z_isinstance (by decide +kernel) (pa_cons (pv 0) (pa_cons (pe_glob (v := .ref _) (by rfl) G_BadRun rfl) pa_nil))) pa_nil))))))
      (pss_cons (ps_set (i := 1) sc_l_flags.nd rfl (Or.inl rfl) (pe_op op_cat (pv 1) (pe_lst (pa_cons (pe_callB call_isV (by rfl) Z_isinstance (by decide +kernel) (pa_cons (pv 0) (pa_cons (pe_glob (v := .ref _) (by rfl) G_TooMany rfl) pa_nil))) (pa_cons (pe_callB call_isV (by rfl) Z_isinstance (by decide +kernel) (pa_cons (pv 0) (pa_cons (pe_glob (v := .ref _) (by rfl) G_BadLog rfl) pa_nil))) (pa_cons (pe_callB call_isV (by rfl) Z_isinstance (by decide +kernel) (pa_cons (pv 0) (pa_cons (pe_glob (v := .ref _) (by rfl) G_BadText rfl) pa_nil))) (pa_cons (pe_callB call_isV (by rfl) Z_isinstance (by decide +kernel) (pa_cons (pv 0) (pa_cons (pe_glob (v := .ref _) (by rfl) G_NoName rfl) pa_nil))) pa_nil)))))))
      (pss_cons (ps_set (i := 1) sc_l_flags.nd rfl (Or.inl rfl) (pe_op op_cat (pv 1) (pe_lst (pa_cons (pe_callB call_isV (by rfl) Z_isinstance (by decide +kernel) (pa_cons (pv 0) (pa_cons (pe_glob (v := .ref _) (by rfl) G_BadLot rfl) pa_nil))) (pa_cons (pe_callB call_isV (by rfl) Z_isinstance (by decide +kernel) (pa_cons (pv 0) (pa_cons (pe_glob (v := .ref _) (by rfl) G_BadWish rfl) pa_nil))) (pa_cons (pe_callB call_isV (by rfl) Z_isinstance (by decide +kernel) (pa_cons (pv 0) (pa_cons (pe_glob (v := .ref _) (by rfl) G_Unsuited rfl) pa_nil))) (pa_cons (pe_callB call_isV (by rfl) Z_isinstance (by decide +kernel) (pa_cons (pv 0) (pa_cons (pe_glob (v := .ref _) (by rfl) G_BadNumber rfl) pa_nil))) pa_nil)))))))
      (pss_cons (ps_set (i := 1) sc_l_flags.nd rfl (Or.inl rfl) (pe_op op_cat (pv 1) (pe_lst (pa_cons (pe_callB call_isV (by rfl) Z_isinstance (by decide +kernel) (pa_cons (pv 0) (pa_cons (pe_glob (v := .ref _) (by rfl) G_NoChance rfl) pa_nil))) (pa_cons (pe_callB call_isV (by rfl) Z_isinstance (by decide +kernel) (pa_cons (pv 0) (pa_cons (pe_glob (v := .ref _) (by rfl) G_BadFraction rfl) pa_nil))) (pa_cons (pe_callB call_isV (by rfl) Z_isinstance (by decide +kernel) (pa_cons (pv 0) (pa_cons (pe_glob (v := .ref _) (by rfl) G_BadRing rfl) pa_nil))) pa_nil))))))
      (pss_cons (ps_set (i := 1) sc_l_flags.nd rfl (Or.inl rfl) (pe_op op_cat (pv 1) (pe_lst (pa_cons (pe_callB call_isV (by rfl) Z_isinstance (by decide +kernel) (pa_cons (pv 0) (pa_cons (pe_glob (v := .ref _) (by rfl) G_BadLooks rfl) pa_nil))) (pa_cons (pe_callB call_isV (by rfl) Z_isinstance (by decide +kernel) (pa_cons (pv 0) (pa_cons (pe_glob (v := .ref _) (by rfl) G_BadKnowledge rfl) pa_nil))) (pa_cons (pe_callB call_isV (by rfl) Z_isinstance (by decide +kernel) (pa_cons (pv 0) (pa_cons (pe_glob (v := .ref _) (by rfl) G_BadLook rfl) pa_nil))) pa_nil))))))
      (pss_cons (ps_set (i := 1) sc_l_flags.nd rfl (Or.inl rfl) (pe_op op_cat (pv 1) (pe_lst (pa_cons (pe_callB call_isV (by rfl) Z_isinstance (by decide +kernel) (pa_cons (pv 0) (pa_cons (pe_glob (v := .ref _) (by rfl) G_BadHand rfl) pa_nil))) (pa_cons (pe_callB call_isV (by rfl) Z_isinstance (by decide +kernel) (pa_cons (pv 0) (pa_cons (pe_glob (v := .ref _) (by rfl) G_NoRun rfl) pa_nil))) (pa_cons (pe_callB call_isV (by rfl) Z_isinstance (by decide +kernel) (pa_cons (pv 0) (pa_cons (pe_glob (v := .ref _) (by rfl) G_BadProgram rfl) pa_nil))) pa_nil))))))
      (pss_cons (ps_set (i := 1) sc_l_flags.nd rfl (Or.inl rfl) (pe_op op_cat (pv 1) (pe_lst (pa_cons (pe_callB call_isV (by rfl) Z_isinstance (by decide +kernel) (pa_cons (pv 0) (pa_cons (pe_glob (v := .ref _) (by rfl) G_BadPrograms rfl) pa_nil))) (pa_cons (pe_callB call_isV (by rfl) Z_isinstance (by decide +kernel) (pa_cons (pv 0) (pa_cons (pe_glob (v := .ref _) (by rfl) G_TooLarge rfl) pa_nil))) (pa_cons (pe_callB call_isV (by rfl) Z_isinstance (by decide +kernel) (pa_cons (pv 0) (pa_cons (pe_glob (v := .ref _) (by rfl) G_Ringed rfl) pa_nil))) pa_nil))))))
      (pss_cons (ps_set (i := 1) sc_l_flags.nd rfl (Or.inl rfl) (pe_op op_cat (pv 1) (pe_lst (pa_cons (pe_callB call_isV (by rfl) Z_isinstance (by decide +kernel) (pa_cons (pv 0) (pa_cons (pe_glob (v := .ref _) (by rfl) G_BadBook rfl) pa_nil))) (pa_cons (pe_callB call_isV (by rfl) Z_isinstance (by decide +kernel) (pa_cons (pv 0) (pa_cons (pe_glob (v := .ref _) (by rfl) G_BadPrices rfl) pa_nil))) (pa_cons (pe_callB call_isV (by rfl) Z_isinstance (by decide +kernel) (pa_cons (pv 0) (pa_cons (pe_glob (v := .ref _) (by rfl) G_BadFalls rfl) pa_nil))) (pa_cons (pe_callB call_isV (by rfl) Z_isinstance (by decide +kernel) (pa_cons (pv 0) (pa_cons (pe_glob (v := .ref _) (by rfl) G_NoEnd rfl) pa_nil))) pa_nil)))))))
      (pss_cons (ps_set (i := 1) sc_l_flags.nd rfl (Or.inl rfl) (pe_op op_cat (pv 1) (pe_lst (pa_cons (pe_callB call_isV (by rfl) Z_isinstance (by decide +kernel) (pa_cons (pv 0) (pa_cons (pe_glob (v := .ref _) (by rfl) G_LastStep rfl) pa_nil))) (pa_cons (pe_callB call_isV (by rfl) Z_isinstance (by decide +kernel) (pa_cons (pv 0) (pa_cons (pe_glob (v := .ref _) (by rfl) G_NoHand rfl) pa_nil))) (pa_cons (pe_callB call_isV (by rfl) Z_isinstance (by decide +kernel) (pa_cons (pv 0) (pa_cons (pe_glob (v := .ref _) (by rfl) G_BadName rfl) pa_nil))) (pa_cons (pe_callB call_isV (by rfl) Z_isinstance (by decide +kernel) (pa_cons (pv 0) (pa_cons (pe_glob (v := .ref _) (by rfl) G_BadOrder rfl) pa_nil))) pa_nil)))))))
      (pss_one (ps_ret (pe_op op_cat (pv 1) (pe_lst (pa_cons (pe_callB call_isV (by rfl) Z_isinstance (by decide +kernel) (pa_cons (pv 0) (pa_cons (pe_glob (v := .ref _) (by rfl) G_NotNow rfl) pa_nil))) (pa_cons (pe_callB call_isV (by rfl) Z_isinstance (by decide +kernel) (pa_cons (pv 0) (pa_cons (pe_glob (v := .ref _) (by rfl) G_NoLine rfl) pa_nil))) (pa_cons (pe_callB call_isV (by rfl) Z_isinstance (by decide +kernel) (pa_cons (pv 0) (pa_cons (pe_glob (v := .ref _) (by rfl) G_NoBench rfl) pa_nil))) (pa_cons (pe_callB call_isV (by rfl) Z_isinstance (by decide +kernel) (pa_cons (pv 0) (pa_cons (pe_glob (v := .ref _) (by rfl) G_NothingDone rfl) pa_nil))) pa_nil))))))))))))))))), ?_⟩
    have hD := ex.cl
    walk_at "go"
    refine x_isV ex.ec ex.fs ec (kit k 0 _ _ hD rfl) ?_
    walk_at "go"
    refine x_isV ex.ec ex.fs ec (kit k 1 _ _ hD rfl) ?_
    walk_at "go"
    refine x_isV ex.ec ex.fs ec (kit k 2 _ _ hD rfl) ?_
    walk_at "go"
    refine x_isV ex.ec ex.fs ec (kit k 3 _ _ hD rfl) ?_
    walk_at "go"
    refine ⟨sz_le (by simp), fun A1 n1 => ?_⟩
    have s1 : L2.Same H (upd H A1 (.lst [V.bl (decide (k = 0)), V.bl (decide (k = 1)), V.bl (decide (k = 2)), V.bl (decide (k = 3))])) := same_new n1
    have l1 : (upd H A1 (.lst [V.bl (decide (k = 0)), V.bl (decide (k = 1)), V.bl (decide (k = 2)), V.bl (decide (k = 3))])) A1 = some (.lst [V.bl (decide (k = 0)), V.bl (decide (k = 1)), V.bl (decide (k = 2)), V.bl (decide (k = 3))]) := upd_same
    generalize upd H A1 (.lst [V.bl (decide (k = 0)), V.bl (decide (k = 1)), V.bl (decide (k = 2)), V.bl (decide (k = 3))]) = H1 at s1 l1 ⊢
    have ex1 := ex.same s1
    walk_at "go"
    refine x_isV ex1.ec ex1.fs ec (kit k 4 _ _ hD rfl) ?_
    walk_at "go"
    refine x_isV ex1.ec ex1.fs ec (kit k 5 _ _ hD rfl) ?_
    walk_at "go"
    refine x_isV ex1.ec ex1.fs ec (kit k 6 _ _ hD rfl) ?_
    walk_at "go"
    refine x_isV ex1.ec ex1.fs ec (kit k 7 _ _ hD rfl) ?_
    walk_at "go"
    refine ⟨sz_le (by simp), fun A2 n2 => ?_⟩
    have s2 : L2.Same H1 (upd H1 A2 (.lst [V.bl (decide (k = 4)), V.bl (decide (k = 5)), V.bl (decide (k = 6)), V.bl (decide (k = 7))])) := same_new n2
    have l2 : (upd H1 A2 (.lst [V.bl (decide (k = 4)), V.bl (decide (k = 5)), V.bl (decide (k = 6)), V.bl (decide (k = 7))])) A2 = some (.lst [V.bl (decide (k = 4)), V.bl (decide (k = 5)), V.bl (decide (k = 6)), V.bl (decide (k = 7))]) := upd_same
    generalize upd H1 A2 (.lst [V.bl (decide (k = 4)), V.bl (decide (k = 5)), V.bl (decide (k = 6)), V.bl (decide (k = 7))]) = H2 at s2 l2 ⊢
    have ex2 := ex1.same s2
    walk_at "go"
    refine x_catL (s2 _ _ l1) l2 (by simp) fun A3 n3 => ?_
    have s3 : L2.Same H2 (upd H2 A3 (.lst ([V.bl (decide (k = 0)), V.bl (decide (k = 1)), V.bl (decide (k = 2)), V.bl (decide (k = 3))] ++ [V.bl (decide (k = 4)), V.bl (decide (k = 5)), V.bl (decide (k = 6)), V.bl (decide (k = 7))]))) := same_new n3
    have l3 : (upd H2 A3 (.lst ([V.bl (decide (k = 0)), V.bl (decide (k = 1)), V.bl (decide (k = 2)), V.bl (decide (k = 3))] ++ [V.bl (decide (k = 4)), V.bl (decide (k = 5)), V.bl (decide (k = 6)), V.bl (decide (k = 7))]))) A3 = some (.lst ([V.bl (decide (k = 0)), V.bl (decide (k = 1)), V.bl (decide (k = 2)), V.bl (decide (k = 3))] ++ [V.bl (decide (k = 4)), V.bl (decide (k = 5)), V.bl (decide (k = 6)), V.bl (decide (k = 7))])) := upd_same
    have f3 : H2 A3 = none := n3
    generalize upd H2 A3 (.lst ([V.bl (decide (k = 0)), V.bl (decide (k = 1)), V.bl (decide (k = 2)), V.bl (decide (k = 3))] ++ [V.bl (decide (k = 4)), V.bl (decide (k = 5)), V.bl (decide (k = 6)), V.bl (decide (k = 7))])) = H3 at s3 l3 ⊢
    have ex3 := ex2.same s3
    walk_at "go"
    refine x_isV ex3.ec ex3.fs ec (kit k 8 _ _ hD rfl) ?_
    walk_at "go"
    refine x_isV ex3.ec ex3.fs ec (kit k 9 _ _ hD rfl) ?_
    walk_at "go"
    refine x_isV ex3.ec ex3.fs ec (kit k 10 _ _ hD rfl) ?_
    walk_at "go"
    refine x_isV ex3.ec ex3.fs ec (kit k 11 _ _ hD rfl) ?_
    walk_at "go"
    refine ⟨sz_le (by simp), fun A4 n4 => ?_⟩
    have s4 : L2.Same H3 (upd H3 A4 (.lst [V.bl (decide (k = 8)), V.bl (decide (k = 9)), V.bl (decide (k = 10)), V.bl (decide (k = 11))])) := same_new n4
    have l4 : (upd H3 A4 (.lst [V.bl (decide (k = 8)), V.bl (decide (k = 9)), V.bl (decide (k = 10)), V.bl (decide (k = 11))])) A4 = some (.lst [V.bl (decide (k = 8)), V.bl (decide (k = 9)), V.bl (decide (k = 10)), V.bl (decide (k = 11))]) := upd_same
    generalize upd H3 A4 (.lst [V.bl (decide (k = 8)), V.bl (decide (k = 9)), V.bl (decide (k = 10)), V.bl (decide (k = 11))]) = H4 at s4 l4 ⊢
    have ex4 := ex3.same s4
    walk_at "go"
    refine x_catL (s4 _ _ l3) l4 (by simp) fun A5 n5 => ?_
    have s5 : L2.Same H4 (upd H4 A5 (.lst (([V.bl (decide (k = 0)), V.bl (decide (k = 1)), V.bl (decide (k = 2)), V.bl (decide (k = 3))] ++ [V.bl (decide (k = 4)), V.bl (decide (k = 5)), V.bl (decide (k = 6)), V.bl (decide (k = 7))]) ++ [V.bl (decide (k = 8)), V.bl (decide (k = 9)), V.bl (decide (k = 10)), V.bl (decide (k = 11))]))) := same_new n5
    have l5 : (upd H4 A5 (.lst (([V.bl (decide (k = 0)), V.bl (decide (k = 1)), V.bl (decide (k = 2)), V.bl (decide (k = 3))] ++ [V.bl (decide (k = 4)), V.bl (decide (k = 5)), V.bl (decide (k = 6)), V.bl (decide (k = 7))]) ++ [V.bl (decide (k = 8)), V.bl (decide (k = 9)), V.bl (decide (k = 10)), V.bl (decide (k = 11))]))) A5 = some (.lst (([V.bl (decide (k = 0)), V.bl (decide (k = 1)), V.bl (decide (k = 2)), V.bl (decide (k = 3))] ++ [V.bl (decide (k = 4)), V.bl (decide (k = 5)), V.bl (decide (k = 6)), V.bl (decide (k = 7))]) ++ [V.bl (decide (k = 8)), V.bl (decide (k = 9)), V.bl (decide (k = 10)), V.bl (decide (k = 11))])) := upd_same
    have f5 : H4 A5 = none := n5
    generalize upd H4 A5 (.lst (([V.bl (decide (k = 0)), V.bl (decide (k = 1)), V.bl (decide (k = 2)), V.bl (decide (k = 3))] ++ [V.bl (decide (k = 4)), V.bl (decide (k = 5)), V.bl (decide (k = 6)), V.bl (decide (k = 7))]) ++ [V.bl (decide (k = 8)), V.bl (decide (k = 9)), V.bl (decide (k = 10)), V.bl (decide (k = 11))])) = H5 at s5 l5 ⊢
    have ex5 := ex4.same s5
    walk_at "go"
    refine x_isV ex5.ec ex5.fs ec (kit k 12 _ _ hD rfl) ?_
    walk_at "go"
    refine x_isV ex5.ec ex5.fs ec (kit k 13 _ _ hD rfl) ?_
    walk_at "go"
    refine x_isV ex5.ec ex5.fs ec (kit k 14 _ _ hD rfl) ?_
    walk_at "go"
    refine ⟨sz_le (by simp), fun A6 n6 => ?_⟩
    have s6 : L2.Same H5 (upd H5 A6 (.lst [V.bl (decide (k = 12)), V.bl (decide (k = 13)), V.bl (decide (k = 14))])) := same_new n6
    have l6 : (upd H5 A6 (.lst [V.bl (decide (k = 12)), V.bl (decide (k = 13)), V.bl (decide (k = 14))])) A6 = some (.lst [V.bl (decide (k = 12)), V.bl (decide (k = 13)), V.bl (decide (k = 14))]) := upd_same
    generalize upd H5 A6 (.lst [V.bl (decide (k = 12)), V.bl (decide (k = 13)), V.bl (decide (k = 14))]) = H6 at s6 l6 ⊢
    have ex6 := ex5.same s6
    walk_at "go"
    refine x_catL (s6 _ _ l5) l6 (by simp) fun A7 n7 => ?_
    have s7 : L2.Same H6 (upd H6 A7 (.lst ((([V.bl (decide (k = 0)), V.bl (decide (k = 1)), V.bl (decide (k = 2)), V.bl (decide (k = 3))] ++ [V.bl (decide (k = 4)), V.bl (decide (k = 5)), V.bl (decide (k = 6)), V.bl (decide (k = 7))]) ++ [V.bl (decide (k = 8)), V.bl (decide (k = 9)), V.bl (decide (k = 10)), V.bl (decide (k = 11))]) ++ [V.bl (decide (k = 12)), V.bl (decide (k = 13)), V.bl (decide (k = 14))]))) := same_new n7
    have l7 : (upd H6 A7 (.lst ((([V.bl (decide (k = 0)), V.bl (decide (k = 1)), V.bl (decide (k = 2)), V.bl (decide (k = 3))] ++ [V.bl (decide (k = 4)), V.bl (decide (k = 5)), V.bl (decide (k = 6)), V.bl (decide (k = 7))]) ++ [V.bl (decide (k = 8)), V.bl (decide (k = 9)), V.bl (decide (k = 10)), V.bl (decide (k = 11))]) ++ [V.bl (decide (k = 12)), V.bl (decide (k = 13)), V.bl (decide (k = 14))]))) A7 = some (.lst ((([V.bl (decide (k = 0)), V.bl (decide (k = 1)), V.bl (decide (k = 2)), V.bl (decide (k = 3))] ++ [V.bl (decide (k = 4)), V.bl (decide (k = 5)), V.bl (decide (k = 6)), V.bl (decide (k = 7))]) ++ [V.bl (decide (k = 8)), V.bl (decide (k = 9)), V.bl (decide (k = 10)), V.bl (decide (k = 11))]) ++ [V.bl (decide (k = 12)), V.bl (decide (k = 13)), V.bl (decide (k = 14))])) := upd_same
    have f7 : H6 A7 = none := n7
    generalize upd H6 A7 (.lst ((([V.bl (decide (k = 0)), V.bl (decide (k = 1)), V.bl (decide (k = 2)), V.bl (decide (k = 3))] ++ [V.bl (decide (k = 4)), V.bl (decide (k = 5)), V.bl (decide (k = 6)), V.bl (decide (k = 7))]) ++ [V.bl (decide (k = 8)), V.bl (decide (k = 9)), V.bl (decide (k = 10)), V.bl (decide (k = 11))]) ++ [V.bl (decide (k = 12)), V.bl (decide (k = 13)), V.bl (decide (k = 14))])) = H7 at s7 l7 ⊢
    have ex7 := ex6.same s7
    walk_at "go"
    refine x_isV ex7.ec ex7.fs ec (kit k 15 _ _ hD rfl) ?_
    walk_at "go"
    refine x_isV ex7.ec ex7.fs ec (kit k 16 _ _ hD rfl) ?_
    walk_at "go"
    refine x_isV ex7.ec ex7.fs ec (kit k 17 _ _ hD rfl) ?_
    walk_at "go"
    refine ⟨sz_le (by simp), fun A8 n8 => ?_⟩
    have s8 : L2.Same H7 (upd H7 A8 (.lst [V.bl (decide (k = 15)), V.bl (decide (k = 16)), V.bl (decide (k = 17))])) := same_new n8
    have l8 : (upd H7 A8 (.lst [V.bl (decide (k = 15)), V.bl (decide (k = 16)), V.bl (decide (k = 17))])) A8 = some (.lst [V.bl (decide (k = 15)), V.bl (decide (k = 16)), V.bl (decide (k = 17))]) := upd_same
    generalize upd H7 A8 (.lst [V.bl (decide (k = 15)), V.bl (decide (k = 16)), V.bl (decide (k = 17))]) = H8 at s8 l8 ⊢
    have ex8 := ex7.same s8
    walk_at "go"
    refine x_catL (s8 _ _ l7) l8 (by simp) fun A9 n9 => ?_
    have s9 : L2.Same H8 (upd H8 A9 (.lst (((([V.bl (decide (k = 0)), V.bl (decide (k = 1)), V.bl (decide (k = 2)), V.bl (decide (k = 3))] ++ [V.bl (decide (k = 4)), V.bl (decide (k = 5)), V.bl (decide (k = 6)), V.bl (decide (k = 7))]) ++ [V.bl (decide (k = 8)), V.bl (decide (k = 9)), V.bl (decide (k = 10)), V.bl (decide (k = 11))]) ++ [V.bl (decide (k = 12)), V.bl (decide (k = 13)), V.bl (decide (k = 14))]) ++ [V.bl (decide (k = 15)), V.bl (decide (k = 16)), V.bl (decide (k = 17))]))) := same_new n9
    have l9 : (upd H8 A9 (.lst (((([V.bl (decide (k = 0)), V.bl (decide (k = 1)), V.bl (decide (k = 2)), V.bl (decide (k = 3))] ++ [V.bl (decide (k = 4)), V.bl (decide (k = 5)), V.bl (decide (k = 6)), V.bl (decide (k = 7))]) ++ [V.bl (decide (k = 8)), V.bl (decide (k = 9)), V.bl (decide (k = 10)), V.bl (decide (k = 11))]) ++ [V.bl (decide (k = 12)), V.bl (decide (k = 13)), V.bl (decide (k = 14))]) ++ [V.bl (decide (k = 15)), V.bl (decide (k = 16)), V.bl (decide (k = 17))]))) A9 = some (.lst (((([V.bl (decide (k = 0)), V.bl (decide (k = 1)), V.bl (decide (k = 2)), V.bl (decide (k = 3))] ++ [V.bl (decide (k = 4)), V.bl (decide (k = 5)), V.bl (decide (k = 6)), V.bl (decide (k = 7))]) ++ [V.bl (decide (k = 8)), V.bl (decide (k = 9)), V.bl (decide (k = 10)), V.bl (decide (k = 11))]) ++ [V.bl (decide (k = 12)), V.bl (decide (k = 13)), V.bl (decide (k = 14))]) ++ [V.bl (decide (k = 15)), V.bl (decide (k = 16)), V.bl (decide (k = 17))])) := upd_same
    have f9 : H8 A9 = none := n9
    generalize upd H8 A9 (.lst (((([V.bl (decide (k = 0)), V.bl (decide (k = 1)), V.bl (decide (k = 2)), V.bl (decide (k = 3))] ++ [V.bl (decide (k = 4)), V.bl (decide (k = 5)), V.bl (decide (k = 6)), V.bl (decide (k = 7))]) ++ [V.bl (decide (k = 8)), V.bl (decide (k = 9)), V.bl (decide (k = 10)), V.bl (decide (k = 11))]) ++ [V.bl (decide (k = 12)), V.bl (decide (k = 13)), V.bl (decide (k = 14))]) ++ [V.bl (decide (k = 15)), V.bl (decide (k = 16)), V.bl (decide (k = 17))])) = H9 at s9 l9 ⊢
    have ex9 := ex8.same s9
    walk_at "go"
    refine x_isV ex9.ec ex9.fs ec (kit k 18 _ _ hD rfl) ?_
    walk_at "go"
    refine x_isV ex9.ec ex9.fs ec (kit k 19 _ _ hD rfl) ?_
    walk_at "go"
    refine x_isV ex9.ec ex9.fs ec (kit k 20 _ _ hD rfl) ?_
    walk_at "go"
    refine ⟨sz_le (by simp), fun A10 n10 => ?_⟩
    have s10 : L2.Same H9 (upd H9 A10 (.lst [V.bl (decide (k = 18)), V.bl (decide (k = 19)), V.bl (decide (k = 20))])) := same_new n10
    have l10 : (upd H9 A10 (.lst [V.bl (decide (k = 18)), V.bl (decide (k = 19)), V.bl (decide (k = 20))])) A10 = some (.lst [V.bl (decide (k = 18)), V.bl (decide (k = 19)), V.bl (decide (k = 20))]) := upd_same
    generalize upd H9 A10 (.lst [V.bl (decide (k = 18)), V.bl (decide (k = 19)), V.bl (decide (k = 20))]) = H10 at s10 l10 ⊢
    have ex10 := ex9.same s10
    walk_at "go"
    refine x_catL (s10 _ _ l9) l10 (by simp) fun A11 n11 => ?_
    have s11 : L2.Same H10 (upd H10 A11 (.lst ((((([V.bl (decide (k = 0)), V.bl (decide (k = 1)), V.bl (decide (k = 2)), V.bl (decide (k = 3))] ++ [V.bl (decide (k = 4)), V.bl (decide (k = 5)), V.bl (decide (k = 6)), V.bl (decide (k = 7))]) ++ [V.bl (decide (k = 8)), V.bl (decide (k = 9)), V.bl (decide (k = 10)), V.bl (decide (k = 11))]) ++ [V.bl (decide (k = 12)), V.bl (decide (k = 13)), V.bl (decide (k = 14))]) ++ [V.bl (decide (k = 15)), V.bl (decide (k = 16)), V.bl (decide (k = 17))]) ++ [V.bl (decide (k = 18)), V.bl (decide (k = 19)), V.bl (decide (k = 20))]))) := same_new n11
    have l11 : (upd H10 A11 (.lst ((((([V.bl (decide (k = 0)), V.bl (decide (k = 1)), V.bl (decide (k = 2)), V.bl (decide (k = 3))] ++ [V.bl (decide (k = 4)), V.bl (decide (k = 5)), V.bl (decide (k = 6)), V.bl (decide (k = 7))]) ++ [V.bl (decide (k = 8)), V.bl (decide (k = 9)), V.bl (decide (k = 10)), V.bl (decide (k = 11))]) ++ [V.bl (decide (k = 12)), V.bl (decide (k = 13)), V.bl (decide (k = 14))]) ++ [V.bl (decide (k = 15)), V.bl (decide (k = 16)), V.bl (decide (k = 17))]) ++ [V.bl (decide (k = 18)), V.bl (decide (k = 19)), V.bl (decide (k = 20))]))) A11 = some (.lst ((((([V.bl (decide (k = 0)), V.bl (decide (k = 1)), V.bl (decide (k = 2)), V.bl (decide (k = 3))] ++ [V.bl (decide (k = 4)), V.bl (decide (k = 5)), V.bl (decide (k = 6)), V.bl (decide (k = 7))]) ++ [V.bl (decide (k = 8)), V.bl (decide (k = 9)), V.bl (decide (k = 10)), V.bl (decide (k = 11))]) ++ [V.bl (decide (k = 12)), V.bl (decide (k = 13)), V.bl (decide (k = 14))]) ++ [V.bl (decide (k = 15)), V.bl (decide (k = 16)), V.bl (decide (k = 17))]) ++ [V.bl (decide (k = 18)), V.bl (decide (k = 19)), V.bl (decide (k = 20))])) := upd_same
    have f11 : H10 A11 = none := n11
    generalize upd H10 A11 (.lst ((((([V.bl (decide (k = 0)), V.bl (decide (k = 1)), V.bl (decide (k = 2)), V.bl (decide (k = 3))] ++ [V.bl (decide (k = 4)), V.bl (decide (k = 5)), V.bl (decide (k = 6)), V.bl (decide (k = 7))]) ++ [V.bl (decide (k = 8)), V.bl (decide (k = 9)), V.bl (decide (k = 10)), V.bl (decide (k = 11))]) ++ [V.bl (decide (k = 12)), V.bl (decide (k = 13)), V.bl (decide (k = 14))]) ++ [V.bl (decide (k = 15)), V.bl (decide (k = 16)), V.bl (decide (k = 17))]) ++ [V.bl (decide (k = 18)), V.bl (decide (k = 19)), V.bl (decide (k = 20))])) = H11 at s11 l11 ⊢
    have ex11 := ex10.same s11
    walk_at "go"
    refine x_isV ex11.ec ex11.fs ec (kit k 21 _ _ hD rfl) ?_
    walk_at "go"
    refine x_isV ex11.ec ex11.fs ec (kit k 22 _ _ hD rfl) ?_
    walk_at "go"
    refine x_isV ex11.ec ex11.fs ec (kit k 23 _ _ hD rfl) ?_
    walk_at "go"
    refine ⟨sz_le (by simp), fun A12 n12 => ?_⟩
    have s12 : L2.Same H11 (upd H11 A12 (.lst [V.bl (decide (k = 21)), V.bl (decide (k = 22)), V.bl (decide (k = 23))])) := same_new n12
    have l12 : (upd H11 A12 (.lst [V.bl (decide (k = 21)), V.bl (decide (k = 22)), V.bl (decide (k = 23))])) A12 = some (.lst [V.bl (decide (k = 21)), V.bl (decide (k = 22)), V.bl (decide (k = 23))]) := upd_same
    generalize upd H11 A12 (.lst [V.bl (decide (k = 21)), V.bl (decide (k = 22)), V.bl (decide (k = 23))]) = H12 at s12 l12 ⊢
    have ex12 := ex11.same s12
    walk_at "go"
    refine x_catL (s12 _ _ l11) l12 (by simp) fun A13 n13 => ?_
    have s13 : L2.Same H12 (upd H12 A13 (.lst (((((([V.bl (decide (k = 0)), V.bl (decide (k = 1)), V.bl (decide (k = 2)), V.bl (decide (k = 3))] ++ [V.bl (decide (k = 4)), V.bl (decide (k = 5)), V.bl (decide (k = 6)), V.bl (decide (k = 7))]) ++ [V.bl (decide (k = 8)), V.bl (decide (k = 9)), V.bl (decide (k = 10)), V.bl (decide (k = 11))]) ++ [V.bl (decide (k = 12)), V.bl (decide (k = 13)), V.bl (decide (k = 14))]) ++ [V.bl (decide (k = 15)), V.bl (decide (k = 16)), V.bl (decide (k = 17))]) ++ [V.bl (decide (k = 18)), V.bl (decide (k = 19)), V.bl (decide (k = 20))]) ++ [V.bl (decide (k = 21)), V.bl (decide (k = 22)), V.bl (decide (k = 23))]))) := same_new n13
    have l13 : (upd H12 A13 (.lst (((((([V.bl (decide (k = 0)), V.bl (decide (k = 1)), V.bl (decide (k = 2)), V.bl (decide (k = 3))] ++ [V.bl (decide (k = 4)), V.bl (decide (k = 5)), V.bl (decide (k = 6)), V.bl (decide (k = 7))]) ++ [V.bl (decide (k = 8)), V.bl (decide (k = 9)), V.bl (decide (k = 10)), V.bl (decide (k = 11))]) ++ [V.bl (decide (k = 12)), V.bl (decide (k = 13)), V.bl (decide (k = 14))]) ++ [V.bl (decide (k = 15)), V.bl (decide (k = 16)), V.bl (decide (k = 17))]) ++ [V.bl (decide (k = 18)), V.bl (decide (k = 19)), V.bl (decide (k = 20))]) ++ [V.bl (decide (k = 21)), V.bl (decide (k = 22)), V.bl (decide (k = 23))]))) A13 = some (.lst (((((([V.bl (decide (k = 0)), V.bl (decide (k = 1)), V.bl (decide (k = 2)), V.bl (decide (k = 3))] ++ [V.bl (decide (k = 4)), V.bl (decide (k = 5)), V.bl (decide (k = 6)), V.bl (decide (k = 7))]) ++ [V.bl (decide (k = 8)), V.bl (decide (k = 9)), V.bl (decide (k = 10)), V.bl (decide (k = 11))]) ++ [V.bl (decide (k = 12)), V.bl (decide (k = 13)), V.bl (decide (k = 14))]) ++ [V.bl (decide (k = 15)), V.bl (decide (k = 16)), V.bl (decide (k = 17))]) ++ [V.bl (decide (k = 18)), V.bl (decide (k = 19)), V.bl (decide (k = 20))]) ++ [V.bl (decide (k = 21)), V.bl (decide (k = 22)), V.bl (decide (k = 23))])) := upd_same
    have f13 : H12 A13 = none := n13
    generalize upd H12 A13 (.lst (((((([V.bl (decide (k = 0)), V.bl (decide (k = 1)), V.bl (decide (k = 2)), V.bl (decide (k = 3))] ++ [V.bl (decide (k = 4)), V.bl (decide (k = 5)), V.bl (decide (k = 6)), V.bl (decide (k = 7))]) ++ [V.bl (decide (k = 8)), V.bl (decide (k = 9)), V.bl (decide (k = 10)), V.bl (decide (k = 11))]) ++ [V.bl (decide (k = 12)), V.bl (decide (k = 13)), V.bl (decide (k = 14))]) ++ [V.bl (decide (k = 15)), V.bl (decide (k = 16)), V.bl (decide (k = 17))]) ++ [V.bl (decide (k = 18)), V.bl (decide (k = 19)), V.bl (decide (k = 20))]) ++ [V.bl (decide (k = 21)), V.bl (decide (k = 22)), V.bl (decide (k = 23))])) = H13 at s13 l13 ⊢
    have ex13 := ex12.same s13
    walk_at "go"
    refine x_isV ex13.ec ex13.fs ec (kit k 24 _ _ hD rfl) ?_
    walk_at "go"
    refine x_isV ex13.ec ex13.fs ec (kit k 25 _ _ hD rfl) ?_
    walk_at "go"
    refine x_isV ex13.ec ex13.fs ec (kit k 26 _ _ hD rfl) ?_
    walk_at "go"
    refine x_isV ex13.ec ex13.fs ec (kit k 27 _ _ hD rfl) ?_
    walk_at "go"
    refine ⟨sz_le (by simp), fun A14 n14 => ?_⟩
    have s14 : L2.Same H13 (upd H13 A14 (.lst [V.bl (decide (k = 24)), V.bl (decide (k = 25)), V.bl (decide (k = 26)), V.bl (decide (k = 27))])) := same_new n14
    have l14 : (upd H13 A14 (.lst [V.bl (decide (k = 24)), V.bl (decide (k = 25)), V.bl (decide (k = 26)), V.bl (decide (k = 27))])) A14 = some (.lst [V.bl (decide (k = 24)), V.bl (decide (k = 25)), V.bl (decide (k = 26)), V.bl (decide (k = 27))]) := upd_same
    generalize upd H13 A14 (.lst [V.bl (decide (k = 24)), V.bl (decide (k = 25)), V.bl (decide (k = 26)), V.bl (decide (k = 27))]) = H14 at s14 l14 ⊢
    have ex14 := ex13.same s14
    walk_at "go"
    refine x_catL (s14 _ _ l13) l14 (by simp) fun A15 n15 => ?_
    have s15 : L2.Same H14 (upd H14 A15 (.lst ((((((([V.bl (decide (k = 0)), V.bl (decide (k = 1)), V.bl (decide (k = 2)), V.bl (decide (k = 3))] ++ [V.bl (decide (k = 4)), V.bl (decide (k = 5)), V.bl (decide (k = 6)), V.bl (decide (k = 7))]) ++ [V.bl (decide (k = 8)), V.bl (decide (k = 9)), V.bl (decide (k = 10)), V.bl (decide (k = 11))]) ++ [V.bl (decide (k = 12)), V.bl (decide (k = 13)), V.bl (decide (k = 14))]) ++ [V.bl (decide (k = 15)), V.bl (decide (k = 16)), V.bl (decide (k = 17))]) ++ [V.bl (decide (k = 18)), V.bl (decide (k = 19)), V.bl (decide (k = 20))]) ++ [V.bl (decide (k = 21)), V.bl (decide (k = 22)), V.bl (decide (k = 23))]) ++ [V.bl (decide (k = 24)), V.bl (decide (k = 25)), V.bl (decide (k = 26)), V.bl (decide (k = 27))]))) := same_new n15
    have l15 : (upd H14 A15 (.lst ((((((([V.bl (decide (k = 0)), V.bl (decide (k = 1)), V.bl (decide (k = 2)), V.bl (decide (k = 3))] ++ [V.bl (decide (k = 4)), V.bl (decide (k = 5)), V.bl (decide (k = 6)), V.bl (decide (k = 7))]) ++ [V.bl (decide (k = 8)), V.bl (decide (k = 9)), V.bl (decide (k = 10)), V.bl (decide (k = 11))]) ++ [V.bl (decide (k = 12)), V.bl (decide (k = 13)), V.bl (decide (k = 14))]) ++ [V.bl (decide (k = 15)), V.bl (decide (k = 16)), V.bl (decide (k = 17))]) ++ [V.bl (decide (k = 18)), V.bl (decide (k = 19)), V.bl (decide (k = 20))]) ++ [V.bl (decide (k = 21)), V.bl (decide (k = 22)), V.bl (decide (k = 23))]) ++ [V.bl (decide (k = 24)), V.bl (decide (k = 25)), V.bl (decide (k = 26)), V.bl (decide (k = 27))]))) A15 = some (.lst ((((((([V.bl (decide (k = 0)), V.bl (decide (k = 1)), V.bl (decide (k = 2)), V.bl (decide (k = 3))] ++ [V.bl (decide (k = 4)), V.bl (decide (k = 5)), V.bl (decide (k = 6)), V.bl (decide (k = 7))]) ++ [V.bl (decide (k = 8)), V.bl (decide (k = 9)), V.bl (decide (k = 10)), V.bl (decide (k = 11))]) ++ [V.bl (decide (k = 12)), V.bl (decide (k = 13)), V.bl (decide (k = 14))]) ++ [V.bl (decide (k = 15)), V.bl (decide (k = 16)), V.bl (decide (k = 17))]) ++ [V.bl (decide (k = 18)), V.bl (decide (k = 19)), V.bl (decide (k = 20))]) ++ [V.bl (decide (k = 21)), V.bl (decide (k = 22)), V.bl (decide (k = 23))]) ++ [V.bl (decide (k = 24)), V.bl (decide (k = 25)), V.bl (decide (k = 26)), V.bl (decide (k = 27))])) := upd_same
    have f15 : H14 A15 = none := n15
    generalize upd H14 A15 (.lst ((((((([V.bl (decide (k = 0)), V.bl (decide (k = 1)), V.bl (decide (k = 2)), V.bl (decide (k = 3))] ++ [V.bl (decide (k = 4)), V.bl (decide (k = 5)), V.bl (decide (k = 6)), V.bl (decide (k = 7))]) ++ [V.bl (decide (k = 8)), V.bl (decide (k = 9)), V.bl (decide (k = 10)), V.bl (decide (k = 11))]) ++ [V.bl (decide (k = 12)), V.bl (decide (k = 13)), V.bl (decide (k = 14))]) ++ [V.bl (decide (k = 15)), V.bl (decide (k = 16)), V.bl (decide (k = 17))]) ++ [V.bl (decide (k = 18)), V.bl (decide (k = 19)), V.bl (decide (k = 20))]) ++ [V.bl (decide (k = 21)), V.bl (decide (k = 22)), V.bl (decide (k = 23))]) ++ [V.bl (decide (k = 24)), V.bl (decide (k = 25)), V.bl (decide (k = 26)), V.bl (decide (k = 27))])) = H15 at s15 l15 ⊢
    have ex15 := ex14.same s15
    walk_at "go"
    refine x_isV ex15.ec ex15.fs ec (kit k 28 _ _ hD rfl) ?_
    walk_at "go"
    refine x_isV ex15.ec ex15.fs ec (kit k 29 _ _ hD rfl) ?_
    walk_at "go"
    refine x_isV ex15.ec ex15.fs ec (kit k 30 _ _ hD rfl) ?_
    walk_at "go"
    refine x_isV ex15.ec ex15.fs ec (kit k 31 _ _ hD rfl) ?_
    walk_at "go"
    refine ⟨sz_le (by simp), fun A16 n16 => ?_⟩
    have s16 : L2.Same H15 (upd H15 A16 (.lst [V.bl (decide (k = 28)), V.bl (decide (k = 29)), V.bl (decide (k = 30)), V.bl (decide (k = 31))])) := same_new n16
    have l16 : (upd H15 A16 (.lst [V.bl (decide (k = 28)), V.bl (decide (k = 29)), V.bl (decide (k = 30)), V.bl (decide (k = 31))])) A16 = some (.lst [V.bl (decide (k = 28)), V.bl (decide (k = 29)), V.bl (decide (k = 30)), V.bl (decide (k = 31))]) := upd_same
    generalize upd H15 A16 (.lst [V.bl (decide (k = 28)), V.bl (decide (k = 29)), V.bl (decide (k = 30)), V.bl (decide (k = 31))]) = H16 at s16 l16 ⊢
    have ex16 := ex15.same s16
    walk_at "go"
    refine x_catL (s16 _ _ l15) l16 (by simp) fun A17 n17 => ?_
    have s17 : L2.Same H16 (upd H16 A17 (.lst (((((((([V.bl (decide (k = 0)), V.bl (decide (k = 1)), V.bl (decide (k = 2)), V.bl (decide (k = 3))] ++ [V.bl (decide (k = 4)), V.bl (decide (k = 5)), V.bl (decide (k = 6)), V.bl (decide (k = 7))]) ++ [V.bl (decide (k = 8)), V.bl (decide (k = 9)), V.bl (decide (k = 10)), V.bl (decide (k = 11))]) ++ [V.bl (decide (k = 12)), V.bl (decide (k = 13)), V.bl (decide (k = 14))]) ++ [V.bl (decide (k = 15)), V.bl (decide (k = 16)), V.bl (decide (k = 17))]) ++ [V.bl (decide (k = 18)), V.bl (decide (k = 19)), V.bl (decide (k = 20))]) ++ [V.bl (decide (k = 21)), V.bl (decide (k = 22)), V.bl (decide (k = 23))]) ++ [V.bl (decide (k = 24)), V.bl (decide (k = 25)), V.bl (decide (k = 26)), V.bl (decide (k = 27))]) ++ [V.bl (decide (k = 28)), V.bl (decide (k = 29)), V.bl (decide (k = 30)), V.bl (decide (k = 31))]))) := same_new n17
    have l17 : (upd H16 A17 (.lst (((((((([V.bl (decide (k = 0)), V.bl (decide (k = 1)), V.bl (decide (k = 2)), V.bl (decide (k = 3))] ++ [V.bl (decide (k = 4)), V.bl (decide (k = 5)), V.bl (decide (k = 6)), V.bl (decide (k = 7))]) ++ [V.bl (decide (k = 8)), V.bl (decide (k = 9)), V.bl (decide (k = 10)), V.bl (decide (k = 11))]) ++ [V.bl (decide (k = 12)), V.bl (decide (k = 13)), V.bl (decide (k = 14))]) ++ [V.bl (decide (k = 15)), V.bl (decide (k = 16)), V.bl (decide (k = 17))]) ++ [V.bl (decide (k = 18)), V.bl (decide (k = 19)), V.bl (decide (k = 20))]) ++ [V.bl (decide (k = 21)), V.bl (decide (k = 22)), V.bl (decide (k = 23))]) ++ [V.bl (decide (k = 24)), V.bl (decide (k = 25)), V.bl (decide (k = 26)), V.bl (decide (k = 27))]) ++ [V.bl (decide (k = 28)), V.bl (decide (k = 29)), V.bl (decide (k = 30)), V.bl (decide (k = 31))]))) A17 = some (.lst (((((((([V.bl (decide (k = 0)), V.bl (decide (k = 1)), V.bl (decide (k = 2)), V.bl (decide (k = 3))] ++ [V.bl (decide (k = 4)), V.bl (decide (k = 5)), V.bl (decide (k = 6)), V.bl (decide (k = 7))]) ++ [V.bl (decide (k = 8)), V.bl (decide (k = 9)), V.bl (decide (k = 10)), V.bl (decide (k = 11))]) ++ [V.bl (decide (k = 12)), V.bl (decide (k = 13)), V.bl (decide (k = 14))]) ++ [V.bl (decide (k = 15)), V.bl (decide (k = 16)), V.bl (decide (k = 17))]) ++ [V.bl (decide (k = 18)), V.bl (decide (k = 19)), V.bl (decide (k = 20))]) ++ [V.bl (decide (k = 21)), V.bl (decide (k = 22)), V.bl (decide (k = 23))]) ++ [V.bl (decide (k = 24)), V.bl (decide (k = 25)), V.bl (decide (k = 26)), V.bl (decide (k = 27))]) ++ [V.bl (decide (k = 28)), V.bl (decide (k = 29)), V.bl (decide (k = 30)), V.bl (decide (k = 31))])) := upd_same
    have f17 : H16 A17 = none := n17
    generalize upd H16 A17 (.lst (((((((([V.bl (decide (k = 0)), V.bl (decide (k = 1)), V.bl (decide (k = 2)), V.bl (decide (k = 3))] ++ [V.bl (decide (k = 4)), V.bl (decide (k = 5)), V.bl (decide (k = 6)), V.bl (decide (k = 7))]) ++ [V.bl (decide (k = 8)), V.bl (decide (k = 9)), V.bl (decide (k = 10)), V.bl (decide (k = 11))]) ++ [V.bl (decide (k = 12)), V.bl (decide (k = 13)), V.bl (decide (k = 14))]) ++ [V.bl (decide (k = 15)), V.bl (decide (k = 16)), V.bl (decide (k = 17))]) ++ [V.bl (decide (k = 18)), V.bl (decide (k = 19)), V.bl (decide (k = 20))]) ++ [V.bl (decide (k = 21)), V.bl (decide (k = 22)), V.bl (decide (k = 23))]) ++ [V.bl (decide (k = 24)), V.bl (decide (k = 25)), V.bl (decide (k = 26)), V.bl (decide (k = 27))]) ++ [V.bl (decide (k = 28)), V.bl (decide (k = 29)), V.bl (decide (k = 30)), V.bl (decide (k = 31))])) = H17 at s17 l17 ⊢
    have ex17 := ex16.same s17
    walk_at "go"
    refine x_isV ex17.ec ex17.fs ec (kit k 32 _ _ hD rfl) ?_
    walk_at "go"
    refine x_isV ex17.ec ex17.fs ec (kit k 33 _ _ hD rfl) ?_
    walk_at "go"
    refine x_isV ex17.ec ex17.fs ec (kit k 34 _ _ hD rfl) ?_
    walk_at "go"
    refine x_isV ex17.ec ex17.fs ec (kit k 35 _ _ hD rfl) ?_
    walk_at "go"
    refine ⟨sz_le (by simp), fun A18 n18 => ?_⟩
    have s18 : L2.Same H17 (upd H17 A18 (.lst [V.bl (decide (k = 32)), V.bl (decide (k = 33)), V.bl (decide (k = 34)), V.bl (decide (k = 35))])) := same_new n18
    have l18 : (upd H17 A18 (.lst [V.bl (decide (k = 32)), V.bl (decide (k = 33)), V.bl (decide (k = 34)), V.bl (decide (k = 35))])) A18 = some (.lst [V.bl (decide (k = 32)), V.bl (decide (k = 33)), V.bl (decide (k = 34)), V.bl (decide (k = 35))]) := upd_same
    generalize upd H17 A18 (.lst [V.bl (decide (k = 32)), V.bl (decide (k = 33)), V.bl (decide (k = 34)), V.bl (decide (k = 35))]) = H18 at s18 l18 ⊢
    have ex18 := ex17.same s18
    walk_at "go"
    refine x_catL (s18 _ _ l17) l18 (by simp) fun A19 n19 => ?_
    have s19 : L2.Same H18 (upd H18 A19 (.lst ((((((((([V.bl (decide (k = 0)), V.bl (decide (k = 1)), V.bl (decide (k = 2)), V.bl (decide (k = 3))] ++ [V.bl (decide (k = 4)), V.bl (decide (k = 5)), V.bl (decide (k = 6)), V.bl (decide (k = 7))]) ++ [V.bl (decide (k = 8)), V.bl (decide (k = 9)), V.bl (decide (k = 10)), V.bl (decide (k = 11))]) ++ [V.bl (decide (k = 12)), V.bl (decide (k = 13)), V.bl (decide (k = 14))]) ++ [V.bl (decide (k = 15)), V.bl (decide (k = 16)), V.bl (decide (k = 17))]) ++ [V.bl (decide (k = 18)), V.bl (decide (k = 19)), V.bl (decide (k = 20))]) ++ [V.bl (decide (k = 21)), V.bl (decide (k = 22)), V.bl (decide (k = 23))]) ++ [V.bl (decide (k = 24)), V.bl (decide (k = 25)), V.bl (decide (k = 26)), V.bl (decide (k = 27))]) ++ [V.bl (decide (k = 28)), V.bl (decide (k = 29)), V.bl (decide (k = 30)), V.bl (decide (k = 31))]) ++ [V.bl (decide (k = 32)), V.bl (decide (k = 33)), V.bl (decide (k = 34)), V.bl (decide (k = 35))]))) := same_new n19
    have l19 : (upd H18 A19 (.lst ((((((((([V.bl (decide (k = 0)), V.bl (decide (k = 1)), V.bl (decide (k = 2)), V.bl (decide (k = 3))] ++ [V.bl (decide (k = 4)), V.bl (decide (k = 5)), V.bl (decide (k = 6)), V.bl (decide (k = 7))]) ++ [V.bl (decide (k = 8)), V.bl (decide (k = 9)), V.bl (decide (k = 10)), V.bl (decide (k = 11))]) ++ [V.bl (decide (k = 12)), V.bl (decide (k = 13)), V.bl (decide (k = 14))]) ++ [V.bl (decide (k = 15)), V.bl (decide (k = 16)), V.bl (decide (k = 17))]) ++ [V.bl (decide (k = 18)), V.bl (decide (k = 19)), V.bl (decide (k = 20))]) ++ [V.bl (decide (k = 21)), V.bl (decide (k = 22)), V.bl (decide (k = 23))]) ++ [V.bl (decide (k = 24)), V.bl (decide (k = 25)), V.bl (decide (k = 26)), V.bl (decide (k = 27))]) ++ [V.bl (decide (k = 28)), V.bl (decide (k = 29)), V.bl (decide (k = 30)), V.bl (decide (k = 31))]) ++ [V.bl (decide (k = 32)), V.bl (decide (k = 33)), V.bl (decide (k = 34)), V.bl (decide (k = 35))]))) A19 = some (.lst ((((((((([V.bl (decide (k = 0)), V.bl (decide (k = 1)), V.bl (decide (k = 2)), V.bl (decide (k = 3))] ++ [V.bl (decide (k = 4)), V.bl (decide (k = 5)), V.bl (decide (k = 6)), V.bl (decide (k = 7))]) ++ [V.bl (decide (k = 8)), V.bl (decide (k = 9)), V.bl (decide (k = 10)), V.bl (decide (k = 11))]) ++ [V.bl (decide (k = 12)), V.bl (decide (k = 13)), V.bl (decide (k = 14))]) ++ [V.bl (decide (k = 15)), V.bl (decide (k = 16)), V.bl (decide (k = 17))]) ++ [V.bl (decide (k = 18)), V.bl (decide (k = 19)), V.bl (decide (k = 20))]) ++ [V.bl (decide (k = 21)), V.bl (decide (k = 22)), V.bl (decide (k = 23))]) ++ [V.bl (decide (k = 24)), V.bl (decide (k = 25)), V.bl (decide (k = 26)), V.bl (decide (k = 27))]) ++ [V.bl (decide (k = 28)), V.bl (decide (k = 29)), V.bl (decide (k = 30)), V.bl (decide (k = 31))]) ++ [V.bl (decide (k = 32)), V.bl (decide (k = 33)), V.bl (decide (k = 34)), V.bl (decide (k = 35))])) := upd_same
    have f19 : H18 A19 = none := n19
    generalize upd H18 A19 (.lst ((((((((([V.bl (decide (k = 0)), V.bl (decide (k = 1)), V.bl (decide (k = 2)), V.bl (decide (k = 3))] ++ [V.bl (decide (k = 4)), V.bl (decide (k = 5)), V.bl (decide (k = 6)), V.bl (decide (k = 7))]) ++ [V.bl (decide (k = 8)), V.bl (decide (k = 9)), V.bl (decide (k = 10)), V.bl (decide (k = 11))]) ++ [V.bl (decide (k = 12)), V.bl (decide (k = 13)), V.bl (decide (k = 14))]) ++ [V.bl (decide (k = 15)), V.bl (decide (k = 16)), V.bl (decide (k = 17))]) ++ [V.bl (decide (k = 18)), V.bl (decide (k = 19)), V.bl (decide (k = 20))]) ++ [V.bl (decide (k = 21)), V.bl (decide (k = 22)), V.bl (decide (k = 23))]) ++ [V.bl (decide (k = 24)), V.bl (decide (k = 25)), V.bl (decide (k = 26)), V.bl (decide (k = 27))]) ++ [V.bl (decide (k = 28)), V.bl (decide (k = 29)), V.bl (decide (k = 30)), V.bl (decide (k = 31))]) ++ [V.bl (decide (k = 32)), V.bl (decide (k = 33)), V.bl (decide (k = 34)), V.bl (decide (k = 35))])) = H19 at s19 l19 ⊢
    have ex19 := ex18.same s19
    try walk_at "go"
    exact q _ _ (s1.trans (s2.trans (s3.trans (s4.trans (s5.trans (s6.trans (s7.trans (s8.trans (s9.trans (s10.trans (s11.trans (s12.trans (s13.trans (s14.trans (s15.trans (s16.trans (s17.trans (s18.trans s19)))))))))))))))))) (((s1.trans (s2.trans (s3.trans (s4.trans (s5.trans (s6.trans (s7.trans (s8.trans (s9.trans (s10.trans (s11.trans (s12.trans (s13.trans (s14.trans (s15.trans (s16.trans (s17.trans s18)))))))))))))))))).free f19) l19
theorem ok_l_kept {f : Addr} {fd : FuncData} (F : Fun K "_law_kept" "_law_kept" s_l_kept f fd) (T0 : ExcG K X00 "part") (T1 : ExcG K X01 "name") (T2 : ExcG K X02 "name") (T3 : ExcG K X03 "index") (T4 : ExcG K X04 "most") (T5 : ExcG K X05 "index") (T6 : ExcG K X06 "line") (T7 : ExcG K X07 "name") :
    FnOk P w K mg base CX0 2 f fd ["_law_e", "_law_k"] (spKept [X00, X01, X02, X03, X04, X05, X06, X07, X08, X09, X10, X11, X12, X13, X14, X15, X16, X17, X18, X19, X20, X21, X22, X23, X24, X25, X26, X27, X28, X29, X30, X31, X32, X33, X34, X35]) := by
  refine F.ok sc_l_kept (fun vs H Q E h => ?_) (fun cdv A outer s H vs Q E hr h => ?_)
  · obtain ⟨_, _, _, _, _, rfl, _⟩ := h
    rfl
  · obtain ⟨k, x, a, D, d, rfl, ex, k8, q⟩ := h
    refine ⟨_, (pss_cons (ps_if (pt_cmpR op_eq (pv 1) pe_int (nomark _))
      (pss_one (ps_ret (pe_byG (pv 0))))
      pss_nil)
      (pss_cons (ps_if (pt_cmpR op_in_seq (pv 1) (pe_lst (pa_cons pe_int (pa_cons pe_int (pa_cons pe_int pa_nil)))) rfl)
      (pss_one (ps_ret (pe_byG (pv 0))))
      pss_nil)
      (pss_cons (ps_if (pt_cmpR op_in_seq (pv 1) (pe_lst (pa_cons pe_int (pa_cons pe_int pa_nil))) rfl)
      (pss_one (ps_ret (pe_byG (pv 0))))
      pss_nil)
      (pss_cons (ps_if (pt_cmpR op_eq (pv 1) pe_int (nomark _))
      (pss_one (ps_ret (pe_byG (pv 0))))
      pss_nil)
      (pss_one (ps_ret (pe_byG (pv 0)))))))), ?_⟩
    have kk : k = 0 ∨ k = 1 ∨ k = 2 ∨ k = 3 ∨ k = 4 ∨ k = 5 ∨ k = 6 ∨ k = 7 := by omega
    rcases kk with rfl | rfl | rfl | rfl | rfl | rfl | rfl | rfl
    · obtain rfl : X00 = D := Option.some.inj ex.cl
      walk_at "go"
      refine x_yes (by decide) ?_
      walk_at "go"
      refine x_byG ?_
      walk_at "go"
      obtain ⟨dd, e1, e2⟩ := (ex.same (L2.Same.refl _)).fl (by decide)
      have ec := (ex.same (L2.Same.refl _)).ec
      rw [e1] at ec
      exact ⟨a, _, dd, x, rfl, ec, T0, e2, q _ (L2.Same.refl _)⟩
    · obtain rfl : X01 = D := Option.some.inj ex.cl
      walk_at "go"
      refine x_no (by decide) ?_
      walk_at "go"
      refine ⟨sz_le (by simp), fun M1 z1 => ?_⟩
      have g1 : L2.Same H (upd H M1 (.lst [V.int 1, V.int 2, V.int 7])) := same_new z1
      have r1 : (upd H M1 (.lst [V.int 1, V.int 2, V.int 7])) M1 = some (.lst [V.int 1, V.int 2, V.int 7]) := upd_same
      generalize upd H M1 (.lst [V.int 1, V.int 2, V.int 7]) = G1 at g1 r1 ⊢
      walk_at "go"
      refine x_inLi (ws := [1, 2, 7]) (SqL.of r1) ?_
      refine ⟨true, congrArg V.bl (decide_eq_true (by decide)), x_ite (fun _ => ?_) (fun z => by cases z)⟩
      try dsimp only [tNext]
      walk_at "go"
      refine x_byG ?_
      walk_at "go"
      obtain ⟨dd, e1, e2⟩ := (ex.same (g1)).fl (by decide)
      have ec := (ex.same (g1)).ec
      rw [e1] at ec
      exact ⟨a, _, dd, x, rfl, ec, T1, e2, q _ (g1)⟩
    · obtain rfl : X02 = D := Option.some.inj ex.cl
      walk_at "go"
      refine x_no (by decide) ?_
      walk_at "go"
      refine ⟨sz_le (by simp), fun M1 z1 => ?_⟩
      have g1 : L2.Same H (upd H M1 (.lst [V.int 1, V.int 2, V.int 7])) := same_new z1
      have r1 : (upd H M1 (.lst [V.int 1, V.int 2, V.int 7])) M1 = some (.lst [V.int 1, V.int 2, V.int 7]) := upd_same
      generalize upd H M1 (.lst [V.int 1, V.int 2, V.int 7]) = G1 at g1 r1 ⊢
      walk_at "go"
      refine x_inLi (ws := [1, 2, 7]) (SqL.of r1) ?_
      refine ⟨true, congrArg V.bl (decide_eq_true (by decide)), x_ite (fun _ => ?_) (fun z => by cases z)⟩
      try dsimp only [tNext]
      walk_at "go"
      refine x_byG ?_
      walk_at "go"
      obtain ⟨dd, e1, e2⟩ := (ex.same (g1)).fl (by decide)
      have ec := (ex.same (g1)).ec
      rw [e1] at ec
      exact ⟨a, _, dd, x, rfl, ec, T2, e2, q _ (g1)⟩
    · obtain rfl : X03 = D := Option.some.inj ex.cl
      walk_at "go"
      refine x_no (by decide) ?_
      walk_at "go"
      refine ⟨sz_le (by simp), fun M1 z1 => ?_⟩
      have g1 : L2.Same H (upd H M1 (.lst [V.int 1, V.int 2, V.int 7])) := same_new z1
      have r1 : (upd H M1 (.lst [V.int 1, V.int 2, V.int 7])) M1 = some (.lst [V.int 1, V.int 2, V.int 7]) := upd_same
      generalize upd H M1 (.lst [V.int 1, V.int 2, V.int 7]) = G1 at g1 r1 ⊢
      walk_at "go"
      refine x_inLi (ws := [1, 2, 7]) (SqL.of r1) ?_
      refine ⟨false, congrArg V.bl (decide_eq_false (by decide)), x_ite (fun z => by cases z) (fun _ => ?_)⟩
      try dsimp only [tNext]
      walk_at "go"
      refine ⟨sz_le (by simp), fun M2 z2 => ?_⟩
      have g2 : L2.Same G1 (upd G1 M2 (.lst [V.int 3, V.int 5])) := same_new z2
      have r2 : (upd G1 M2 (.lst [V.int 3, V.int 5])) M2 = some (.lst [V.int 3, V.int 5]) := upd_same
      generalize upd G1 M2 (.lst [V.int 3, V.int 5]) = G2 at g2 r2 ⊢
      walk_at "go"
      refine x_inLi (ws := [3, 5]) (SqL.of r2) ?_
      refine ⟨true, congrArg V.bl (decide_eq_true (by decide)), x_ite (fun _ => ?_) (fun z => by cases z)⟩
      try dsimp only [tNext]
      walk_at "go"
      refine x_byG ?_
      walk_at "go"
      obtain ⟨dd, e1, e2⟩ := (ex.same ((g1.trans g2))).fl (by decide)
      have ec := (ex.same ((g1.trans g2))).ec
      rw [e1] at ec
      exact ⟨a, _, dd, x, rfl, ec, T3, e2, q _ ((g1.trans g2))⟩
    · obtain rfl : X04 = D := Option.some.inj ex.cl
      walk_at "go"
      refine x_no (by decide) ?_
      walk_at "go"
      refine ⟨sz_le (by simp), fun M1 z1 => ?_⟩
      have g1 : L2.Same H (upd H M1 (.lst [V.int 1, V.int 2, V.int 7])) := same_new z1
      have r1 : (upd H M1 (.lst [V.int 1, V.int 2, V.int 7])) M1 = some (.lst [V.int 1, V.int 2, V.int 7]) := upd_same
      generalize upd H M1 (.lst [V.int 1, V.int 2, V.int 7]) = G1 at g1 r1 ⊢
      walk_at "go"
      refine x_inLi (ws := [1, 2, 7]) (SqL.of r1) ?_
      refine ⟨false, congrArg V.bl (decide_eq_false (by decide)), x_ite (fun z => by cases z) (fun _ => ?_)⟩
      try dsimp only [tNext]
      walk_at "go"
      refine ⟨sz_le (by simp), fun M2 z2 => ?_⟩
      have g2 : L2.Same G1 (upd G1 M2 (.lst [V.int 3, V.int 5])) := same_new z2
      have r2 : (upd G1 M2 (.lst [V.int 3, V.int 5])) M2 = some (.lst [V.int 3, V.int 5]) := upd_same
      generalize upd G1 M2 (.lst [V.int 3, V.int 5]) = G2 at g2 r2 ⊢
      walk_at "go"
      refine x_inLi (ws := [3, 5]) (SqL.of r2) ?_
      refine ⟨false, congrArg V.bl (decide_eq_false (by decide)), x_ite (fun z => by cases z) (fun _ => ?_)⟩
      try dsimp only [tNext]
      walk_at "go"
      refine x_yes (by decide) ?_
      walk_at "go"
      refine x_byG ?_
      walk_at "go"
      obtain ⟨dd, e1, e2⟩ := (ex.same ((g1.trans g2))).fl (by decide)
      have ec := (ex.same ((g1.trans g2))).ec
      rw [e1] at ec
      exact ⟨a, _, dd, x, rfl, ec, T4, e2, q _ ((g1.trans g2))⟩
    · obtain rfl : X05 = D := Option.some.inj ex.cl
      walk_at "go"
      refine x_no (by decide) ?_
      walk_at "go"
      refine ⟨sz_le (by simp), fun M1 z1 => ?_⟩
      have g1 : L2.Same H (upd H M1 (.lst [V.int 1, V.int 2, V.int 7])) := same_new z1
      have r1 : (upd H M1 (.lst [V.int 1, V.int 2, V.int 7])) M1 = some (.lst [V.int 1, V.int 2, V.int 7]) := upd_same
      generalize upd H M1 (.lst [V.int 1, V.int 2, V.int 7]) = G1 at g1 r1 ⊢
      walk_at "go"
      refine x_inLi (ws := [1, 2, 7]) (SqL.of r1) ?_
      refine ⟨false, congrArg V.bl (decide_eq_false (by decide)), x_ite (fun z => by cases z) (fun _ => ?_)⟩
      try dsimp only [tNext]
      walk_at "go"
      refine ⟨sz_le (by simp), fun M2 z2 => ?_⟩
      have g2 : L2.Same G1 (upd G1 M2 (.lst [V.int 3, V.int 5])) := same_new z2
      have r2 : (upd G1 M2 (.lst [V.int 3, V.int 5])) M2 = some (.lst [V.int 3, V.int 5]) := upd_same
      generalize upd G1 M2 (.lst [V.int 3, V.int 5]) = G2 at g2 r2 ⊢
      walk_at "go"
      refine x_inLi (ws := [3, 5]) (SqL.of r2) ?_
      refine ⟨true, congrArg V.bl (decide_eq_true (by decide)), x_ite (fun _ => ?_) (fun z => by cases z)⟩
      try dsimp only [tNext]
      walk_at "go"
      refine x_byG ?_
      walk_at "go"
      obtain ⟨dd, e1, e2⟩ := (ex.same ((g1.trans g2))).fl (by decide)
      have ec := (ex.same ((g1.trans g2))).ec
      rw [e1] at ec
      exact ⟨a, _, dd, x, rfl, ec, T5, e2, q _ ((g1.trans g2))⟩
    · obtain rfl : X06 = D := Option.some.inj ex.cl
      walk_at "go"
      refine x_no (by decide) ?_
      walk_at "go"
      refine ⟨sz_le (by simp), fun M1 z1 => ?_⟩
      have g1 : L2.Same H (upd H M1 (.lst [V.int 1, V.int 2, V.int 7])) := same_new z1
      have r1 : (upd H M1 (.lst [V.int 1, V.int 2, V.int 7])) M1 = some (.lst [V.int 1, V.int 2, V.int 7]) := upd_same
      generalize upd H M1 (.lst [V.int 1, V.int 2, V.int 7]) = G1 at g1 r1 ⊢
      walk_at "go"
      refine x_inLi (ws := [1, 2, 7]) (SqL.of r1) ?_
      refine ⟨false, congrArg V.bl (decide_eq_false (by decide)), x_ite (fun z => by cases z) (fun _ => ?_)⟩
      try dsimp only [tNext]
      walk_at "go"
      refine ⟨sz_le (by simp), fun M2 z2 => ?_⟩
      have g2 : L2.Same G1 (upd G1 M2 (.lst [V.int 3, V.int 5])) := same_new z2
      have r2 : (upd G1 M2 (.lst [V.int 3, V.int 5])) M2 = some (.lst [V.int 3, V.int 5]) := upd_same
      generalize upd G1 M2 (.lst [V.int 3, V.int 5]) = G2 at g2 r2 ⊢
      walk_at "go"
      refine x_inLi (ws := [3, 5]) (SqL.of r2) ?_
      refine ⟨false, congrArg V.bl (decide_eq_false (by decide)), x_ite (fun z => by cases z) (fun _ => ?_)⟩
      try dsimp only [tNext]
      walk_at "go"
      refine x_no (by decide) ?_
      walk_at "go"
      refine x_byG ?_
      walk_at "go"
      obtain ⟨dd, e1, e2⟩ := (ex.same ((g1.trans g2))).fl (by decide)
      have ec := (ex.same ((g1.trans g2))).ec
      rw [e1] at ec
      exact ⟨a, _, dd, x, rfl, ec, T6, e2, q _ ((g1.trans g2))⟩
    · obtain rfl : X07 = D := Option.some.inj ex.cl
      walk_at "go"
      refine x_no (by decide) ?_
      walk_at "go"
      refine ⟨sz_le (by simp), fun M1 z1 => ?_⟩
      have g1 : L2.Same H (upd H M1 (.lst [V.int 1, V.int 2, V.int 7])) := same_new z1
      have r1 : (upd H M1 (.lst [V.int 1, V.int 2, V.int 7])) M1 = some (.lst [V.int 1, V.int 2, V.int 7]) := upd_same
      generalize upd H M1 (.lst [V.int 1, V.int 2, V.int 7]) = G1 at g1 r1 ⊢
      walk_at "go"
      refine x_inLi (ws := [1, 2, 7]) (SqL.of r1) ?_
      refine ⟨true, congrArg V.bl (decide_eq_true (by decide)), x_ite (fun _ => ?_) (fun z => by cases z)⟩
      try dsimp only [tNext]
      walk_at "go"
      refine x_byG ?_
      walk_at "go"
      obtain ⟨dd, e1, e2⟩ := (ex.same (g1)).fl (by decide)
      have ec := (ex.same (g1)).ec
      rw [e1] at ec
      exact ⟨a, _, dd, x, rfl, ec, T7, e2, q _ (g1)⟩
theorem ok_l_keptW {f : Addr} {fd : FuncData} (F : Fun K "_law_kept" "_law_kept" s_l_kept f fd) (T0 : ExcG K X00 "part") (T1 : ExcG K X01 "name") (T2 : ExcG K X02 "name") (T3 : ExcG K X03 "index") (T4 : ExcG K X04 "most") (T5 : ExcG K X05 "index") (T6 : ExcG K X06 "line") (T7 : ExcG K X07 "name") :
    FnW P w K mg base 2 f fd ["_law_e", "_law_k"] (spKept [X00, X01, X02, X03, X04, X05, X06, X07, X08, X09, X10, X11, X12, X13, X14, X15, X16, X17, X18, X19, X20, X21, X22, X23, X24, X25, X26, X27, X28, X29, X30, X31, X32, X33, X34, X35]) := by
  refine Fun.okW F sc_l_kept (fun vs H Q E h => ?_) (fun cdv A outer s H vs Q E hr h => ?_)
  · obtain ⟨_, _, _, _, _, rfl, _⟩ := h
    rfl
  · obtain ⟨k, x, a, D, d, rfl, ex, k8, q⟩ := h
    refine ⟨_, (pss_cons (ps_if (pt_cmpR op_eq (pv 1) pe_int (nomark _))
      (pss_one (ps_ret (pe_byG (pv 0))))
      pss_nil)
      (pss_cons (ps_if (pt_cmpR op_in_seq (pv 1) (pe_lst (pa_cons pe_int (pa_cons pe_int (pa_cons pe_int pa_nil)))) rfl)
      (pss_one (ps_ret (pe_byG (pv 0))))
      pss_nil)
      (pss_cons (ps_if (pt_cmpR op_in_seq (pv 1) (pe_lst (pa_cons pe_int (pa_cons pe_int pa_nil))) rfl)
      (pss_one (ps_ret (pe_byG (pv 0))))
      pss_nil)
      (pss_cons (ps_if (pt_cmpR op_eq (pv 1) pe_int (nomark _))
      (pss_one (ps_ret (pe_byG (pv 0))))
      pss_nil)
      (pss_one (ps_ret (pe_byG (pv 0)))))))), ?_⟩
    have kk : k = 0 ∨ k = 1 ∨ k = 2 ∨ k = 3 ∨ k = 4 ∨ k = 5 ∨ k = 6 ∨ k = 7 := by omega
    rcases kk with rfl | rfl | rfl | rfl | rfl | rfl | rfl | rfl
    · obtain rfl : X00 = D := Option.some.inj ex.cl
      walk_at "go"
      refine x_yes (by decide) ?_
      walk_at "go"
      refine x_byG ?_
      walk_at "go"
      obtain ⟨dd, e1, e2⟩ := (ex.same (L2.Same.refl _)).fl (by decide)
      have ec := (ex.same (L2.Same.refl _)).ec
      rw [e1] at ec
      exact ⟨a, _, dd, x, rfl, ec, T0, e2, q _ (L2.Same.refl _)⟩
    · obtain rfl : X01 = D := Option.some.inj ex.cl
      walk_at "go"
      refine x_no (by decide) ?_
      walk_at "go"
      refine ⟨sz_le (by simp), fun M1 z1 => ?_⟩
      have g1 : L2.Same H (upd H M1 (.lst [V.int 1, V.int 2, V.int 7])) := same_new z1
      have r1 : (upd H M1 (.lst [V.int 1, V.int 2, V.int 7])) M1 = some (.lst [V.int 1, V.int 2, V.int 7]) := upd_same
      generalize upd H M1 (.lst [V.int 1, V.int 2, V.int 7]) = G1 at g1 r1 ⊢
      walk_at "go"
      refine x_inLi (ws := [1, 2, 7]) (SqL.of r1) ?_
      refine ⟨true, congrArg V.bl (decide_eq_true (by decide)), x_ite (fun _ => ?_) (fun z => by cases z)⟩
      try dsimp only [tNext]
      walk_at "go"
      refine x_byG ?_
      walk_at "go"
      obtain ⟨dd, e1, e2⟩ := (ex.same (g1)).fl (by decide)
      have ec := (ex.same (g1)).ec
      rw [e1] at ec
      exact ⟨a, _, dd, x, rfl, ec, T1, e2, q _ (g1)⟩
    · obtain rfl : X02 = D := Option.some.inj ex.cl
      walk_at "go"
      refine x_no (by decide) ?_
      walk_at "go"
      refine ⟨sz_le (by simp), fun M1 z1 => ?_⟩
      have g1 : L2.Same H (upd H M1 (.lst [V.int 1, V.int 2, V.int 7])) := same_new z1
      have r1 : (upd H M1 (.lst [V.int 1, V.int 2, V.int 7])) M1 = some (.lst [V.int 1, V.int 2, V.int 7]) := upd_same
      generalize upd H M1 (.lst [V.int 1, V.int 2, V.int 7]) = G1 at g1 r1 ⊢
      walk_at "go"
      refine x_inLi (ws := [1, 2, 7]) (SqL.of r1) ?_
      refine ⟨true, congrArg V.bl (decide_eq_true (by decide)), x_ite (fun _ => ?_) (fun z => by cases z)⟩
      try dsimp only [tNext]
      walk_at "go"
      refine x_byG ?_
      walk_at "go"
      obtain ⟨dd, e1, e2⟩ := (ex.same (g1)).fl (by decide)
      have ec := (ex.same (g1)).ec
      rw [e1] at ec
      exact ⟨a, _, dd, x, rfl, ec, T2, e2, q _ (g1)⟩
    · obtain rfl : X03 = D := Option.some.inj ex.cl
      walk_at "go"
      refine x_no (by decide) ?_
      walk_at "go"
      refine ⟨sz_le (by simp), fun M1 z1 => ?_⟩
      have g1 : L2.Same H (upd H M1 (.lst [V.int 1, V.int 2, V.int 7])) := same_new z1
      have r1 : (upd H M1 (.lst [V.int 1, V.int 2, V.int 7])) M1 = some (.lst [V.int 1, V.int 2, V.int 7]) := upd_same
      generalize upd H M1 (.lst [V.int 1, V.int 2, V.int 7]) = G1 at g1 r1 ⊢
      walk_at "go"
      refine x_inLi (ws := [1, 2, 7]) (SqL.of r1) ?_
      refine ⟨false, congrArg V.bl (decide_eq_false (by decide)), x_ite (fun z => by cases z) (fun _ => ?_)⟩
      try dsimp only [tNext]
      walk_at "go"
      refine ⟨sz_le (by simp), fun M2 z2 => ?_⟩
      have g2 : L2.Same G1 (upd G1 M2 (.lst [V.int 3, V.int 5])) := same_new z2
      have r2 : (upd G1 M2 (.lst [V.int 3, V.int 5])) M2 = some (.lst [V.int 3, V.int 5]) := upd_same
      generalize upd G1 M2 (.lst [V.int 3, V.int 5]) = G2 at g2 r2 ⊢
      walk_at "go"
      refine x_inLi (ws := [3, 5]) (SqL.of r2) ?_
      refine ⟨true, congrArg V.bl (decide_eq_true (by decide)), x_ite (fun _ => ?_) (fun z => by cases z)⟩
      try dsimp only [tNext]
      walk_at "go"
      refine x_byG ?_
      walk_at "go"
      obtain ⟨dd, e1, e2⟩ := (ex.same ((g1.trans g2))).fl (by decide)
      have ec := (ex.same ((g1.trans g2))).ec
      rw [e1] at ec
      exact ⟨a, _, dd, x, rfl, ec, T3, e2, q _ ((g1.trans g2))⟩
    · obtain rfl : X04 = D := Option.some.inj ex.cl
      walk_at "go"
      refine x_no (by decide) ?_
      walk_at "go"
      refine ⟨sz_le (by simp), fun M1 z1 => ?_⟩
      have g1 : L2.Same H (upd H M1 (.lst [V.int 1, V.int 2, V.int 7])) := same_new z1
      have r1 : (upd H M1 (.lst [V.int 1, V.int 2, V.int 7])) M1 = some (.lst [V.int 1, V.int 2, V.int 7]) := upd_same
      generalize upd H M1 (.lst [V.int 1, V.int 2, V.int 7]) = G1 at g1 r1 ⊢
      walk_at "go"
      refine x_inLi (ws := [1, 2, 7]) (SqL.of r1) ?_
      refine ⟨false, congrArg V.bl (decide_eq_false (by decide)), x_ite (fun z => by cases z) (fun _ => ?_)⟩
      try dsimp only [tNext]
      walk_at "go"
      refine ⟨sz_le (by simp), fun M2 z2 => ?_⟩
      have g2 : L2.Same G1 (upd G1 M2 (.lst [V.int 3, V.int 5])) := same_new z2
      have r2 : (upd G1 M2 (.lst [V.int 3, V.int 5])) M2 = some (.lst [V.int 3, V.int 5]) := upd_same
      generalize upd G1 M2 (.lst [V.int 3, V.int 5]) = G2 at g2 r2 ⊢
      walk_at "go"
      refine x_inLi (ws := [3, 5]) (SqL.of r2) ?_
      refine ⟨false, congrArg V.bl (decide_eq_false (by decide)), x_ite (fun z => by cases z) (fun _ => ?_)⟩
      try dsimp only [tNext]
      walk_at "go"
      refine x_yes (by decide) ?_
      walk_at "go"
      refine x_byG ?_
      walk_at "go"
      obtain ⟨dd, e1, e2⟩ := (ex.same ((g1.trans g2))).fl (by decide)
      have ec := (ex.same ((g1.trans g2))).ec
      rw [e1] at ec
      exact ⟨a, _, dd, x, rfl, ec, T4, e2, q _ ((g1.trans g2))⟩
    · obtain rfl : X05 = D := Option.some.inj ex.cl
      walk_at "go"
      refine x_no (by decide) ?_
      walk_at "go"
      refine ⟨sz_le (by simp), fun M1 z1 => ?_⟩
      have g1 : L2.Same H (upd H M1 (.lst [V.int 1, V.int 2, V.int 7])) := same_new z1
      have r1 : (upd H M1 (.lst [V.int 1, V.int 2, V.int 7])) M1 = some (.lst [V.int 1, V.int 2, V.int 7]) := upd_same
      generalize upd H M1 (.lst [V.int 1, V.int 2, V.int 7]) = G1 at g1 r1 ⊢
      walk_at "go"
      refine x_inLi (ws := [1, 2, 7]) (SqL.of r1) ?_
      refine ⟨false, congrArg V.bl (decide_eq_false (by decide)), x_ite (fun z => by cases z) (fun _ => ?_)⟩
      try dsimp only [tNext]
      walk_at "go"
      refine ⟨sz_le (by simp), fun M2 z2 => ?_⟩
      have g2 : L2.Same G1 (upd G1 M2 (.lst [V.int 3, V.int 5])) := same_new z2
      have r2 : (upd G1 M2 (.lst [V.int 3, V.int 5])) M2 = some (.lst [V.int 3, V.int 5]) := upd_same
      generalize upd G1 M2 (.lst [V.int 3, V.int 5]) = G2 at g2 r2 ⊢
      walk_at "go"
      refine x_inLi (ws := [3, 5]) (SqL.of r2) ?_
      refine ⟨true, congrArg V.bl (decide_eq_true (by decide)), x_ite (fun _ => ?_) (fun z => by cases z)⟩
      try dsimp only [tNext]
      walk_at "go"
      refine x_byG ?_
      walk_at "go"
      obtain ⟨dd, e1, e2⟩ := (ex.same ((g1.trans g2))).fl (by decide)
      have ec := (ex.same ((g1.trans g2))).ec
      rw [e1] at ec
      exact ⟨a, _, dd, x, rfl, ec, T5, e2, q _ ((g1.trans g2))⟩
    · obtain rfl : X06 = D := Option.some.inj ex.cl
      walk_at "go"
      refine x_no (by decide) ?_
      walk_at "go"
      refine ⟨sz_le (by simp), fun M1 z1 => ?_⟩
      have g1 : L2.Same H (upd H M1 (.lst [V.int 1, V.int 2, V.int 7])) := same_new z1
      have r1 : (upd H M1 (.lst [V.int 1, V.int 2, V.int 7])) M1 = some (.lst [V.int 1, V.int 2, V.int 7]) := upd_same
      generalize upd H M1 (.lst [V.int 1, V.int 2, V.int 7]) = G1 at g1 r1 ⊢
      walk_at "go"
      refine x_inLi (ws := [1, 2, 7]) (SqL.of r1) ?_
      refine ⟨false, congrArg V.bl (decide_eq_false (by decide)), x_ite (fun z => by cases z) (fun _ => ?_)⟩
      try dsimp only [tNext]
      walk_at "go"
      refine ⟨sz_le (by simp), fun M2 z2 => ?_⟩
      have g2 : L2.Same G1 (upd G1 M2 (.lst [V.int 3, V.int 5])) := same_new z2
      have r2 : (upd G1 M2 (.lst [V.int 3, V.int 5])) M2 = some (.lst [V.int 3, V.int 5]) := upd_same
      generalize upd G1 M2 (.lst [V.int 3, V.int 5]) = G2 at g2 r2 ⊢
      walk_at "go"
      refine x_inLi (ws := [3, 5]) (SqL.of r2) ?_
      refine ⟨false, congrArg V.bl (decide_eq_false (by decide)), x_ite (fun z => by cases z) (fun _ => ?_)⟩
      try dsimp only [tNext]
      walk_at "go"
      refine x_no (by decide) ?_
      walk_at "go"
      refine x_byG ?_
      walk_at "go"
      obtain ⟨dd, e1, e2⟩ := (ex.same ((g1.trans g2))).fl (by decide)
      have ec := (ex.same ((g1.trans g2))).ec
      rw [e1] at ec
      exact ⟨a, _, dd, x, rfl, ec, T6, e2, q _ ((g1.trans g2))⟩
    · obtain rfl : X07 = D := Option.some.inj ex.cl
      walk_at "go"
      refine x_no (by decide) ?_
      walk_at "go"
      refine ⟨sz_le (by simp), fun M1 z1 => ?_⟩
      have g1 : L2.Same H (upd H M1 (.lst [V.int 1, V.int 2, V.int 7])) := same_new z1
      have r1 : (upd H M1 (.lst [V.int 1, V.int 2, V.int 7])) M1 = some (.lst [V.int 1, V.int 2, V.int 7]) := upd_same
      generalize upd H M1 (.lst [V.int 1, V.int 2, V.int 7]) = G1 at g1 r1 ⊢
      walk_at "go"
      refine x_inLi (ws := [1, 2, 7]) (SqL.of r1) ?_
      refine ⟨true, congrArg V.bl (decide_eq_true (by decide)), x_ite (fun _ => ?_) (fun z => by cases z)⟩
      try dsimp only [tNext]
      walk_at "go"
      refine x_byG ?_
      walk_at "go"
      obtain ⟨dd, e1, e2⟩ := (ex.same (g1)).fl (by decide)
      have ec := (ex.same (g1)).ec
      rw [e1] at ec
      exact ⟨a, _, dd, x, rfl, ec, T7, e2, q _ (g1)⟩
end
/-! ### k10: raised, and the law (printed by gen10b.py) -/
def spRaised (cs : List Addr) : Sp := fun vs H Q _ => ∃ (k : Nat) (x : V), vs = [.int k, x] ∧ k < 8 ∧ ∀ H' T A, L2.Same H H' → H' A = some (.lst (flagsV k)) → H' T = some (.tup [.ref A, x]) → Q (.ref T) H'
def spLaw (K : PySem.W.Frag) : Sp := fun vs H Q _ => ∃ (a : Addr) (ns : List Int), vs = [.ref a] ∧ SqL K H a (intsV ns) ∧ ns.length ≤ 63 ∧ ∀ H', Q (.bl true) H'
theorem alkA_bls {K : PySem.W.Frag} {H : Hp} {n : Nat} : ∀ (bs : List Bool), AlkA K H n (bs.map V.bl) (bs.map V.bl)
  | [] => .nil
  | b :: r => .cons (.bl b) (alkA_bls r)
theorem flags_map (k : Nat) : flagsV k = ((List.range 36).map fun j => decide (k = j)).map V.bl := by unfold flagsV; rw [List.map_map]; rfl
theorem Th10.alk {K : PySem.W.Frag} {H : Hp} {x : V} {n : Nat} (h : Th10 K H x) : Alk K H n x x := by
  cases h with
  | dat h hs => exact .dat h h hs
  | d0 h => exact .ref _
  | d1 h => exact .ref _
theorem Th10.ne {K : PySem.W.Frag} {H : Hp} {Q : VK} {x : V} (h : Th10 K H x) (q : Q (.bl false) H) : rOr (rNeD K) (rNeDD K) x x H Q := by
  cases h with
  | dat h hs => exact .inl ⟨_, _, h, h, hs, hs, by rw [SeqAt.eqv_refl _ (SeqAt.canLay_of_shaped hs)]; exact q⟩
  | d0 h => exact .inr ⟨_, _, [], [], (fun _ => .none), (fun _ => .none), rfl, rfl, .inl h, .inl h, (fun p hp => by cases hp), (fun p hp => by cases hp), q⟩
  | d1 h => exact .inr ⟨_, _, _, _, (fun _ => .int 1), (fun _ => .int 1), rfl, rfl, .inl h, .inl h, (fun p hp => by rw [List.mem_singleton.mp hp]; exact ⟨.int 1, by decide +kernel⟩), (fun p hp => by rw [List.mem_singleton.mp hp]; exact ⟨.int 1, by decide +kernel⟩), by
      have e : eqKB [(Sum.inr "a", V.int 1)] [(Sum.inr "a", V.int 1)] (fun _ => .int 1) (fun _ => .int 1) = true := by decide +kernel
      rw [e]
      exact q⟩
theorem x_slots {t : TS} {D : Ends} {σ σ' : L2.St} {H : Hp} (e : σ = σ') (q : t D σ' H) : t D σ H := by
  rw [e]
  exact q
theorem str_shaped {s : Str} (h : PyData.strOk s = true) : SeqAt.shaped (.str s) = true := by
  unfold SeqAt.shaped
  have e1 : PyData.canLay0 (.str s) = true := h
  rw [e1]
  rfl
theorem x_sEnd {D : Ends} {σ : L2.St} {H : Hp} {i : Nat} (q : D.nx (σ.set i none) H) : (sEnds i D).nx σ H := q
theorem NameS.ok {z : Str} (h : NameS z) : PyData.strOk z = true := by
  unfold PyData.strOk
  rw [← Array.all_toList]
  refine List.all_eq_true.mpr fun d hd => decide_eq_true ?_
  obtain ⟨d0, r, e, h1, _, h3⟩ := h
  rw [e] at hd
  rcases List.mem_cons.mp hd with rfl | hd
  · have := h1.2
    omega
  · rcases h3 d hd with h | h <;> omega
theorem nw_wo {p : Addr} {H H' : Hp} (hp : H p ≠ none) : L2.Same (nw H H') (wo H' p) := fun a o e => by
  obtain ⟨e1, e2⟩ := nw_some e
  rw [wo_ne (fun z => hp (by rw [← z]; exact e1))]
  exact e2
section
variable {P : Program} {w : World} {K : PySem.W.Frag} {mg : Str → Option Value} {base : Heap} {X00 X01 X02 X03 X04 X05 X06 X07 X08 X09 X10 X11 X12 X13 X14 X15 X16 X17 X18 X19 X20 X21 X22 X23 X24 X25 X26 X27 X28 X29 X30 X31 X32 X33 X34 X35 CO : Addr}
theorem ok_l_raised {f : Addr} {fd : FuncData} (F : Fun K "_law_raised" "_law_raised" s_l_raised f fd) (G_OwnError : mg "OwnError" = some (.ref CO)) (E_BadWork : ExcF P K mg "BadWork" "part" X00) (E_NoStand : ExcF P K mg "NoStand" "name" X01) (E_NoStep : ExcF P K mg "NoStep" "name" X02) (E_BadRun : ExcF P K mg "BadRun" "index" X03) (E_TooMany : ExcF P K mg "TooMany" "most" X04) (E_BadLog : ExcF P K mg "BadLog" "index" X05) (E_BadText : ExcF P K mg "BadText" "line" X06) (E_NoName : ExcF P K mg "NoName" "name" X07) (m0 : PySem.W.exmOne K (.ref X00) (.ref CO) = some true) (m1 : PySem.W.exmOne K (.ref X01) (.ref CO) = some true) (m2 : PySem.W.exmOne K (.ref X02) (.ref CO) = some true) (m3 : PySem.W.exmOne K (.ref X03) (.ref CO) = some true) (m4 : PySem.W.exmOne K (.ref X04) (.ref CO) = some true) (m5 : PySem.W.exmOne K (.ref X05) (.ref CO) = some true) (m6 : PySem.W.exmOne K (.ref X06) (.ref CO) = some true) (m7 : PySem.W.exmOne K (.ref X07) (.ref CO) = some true) (xa : ExcAll K [X00, X01, X02, X03, X04, X05, X06, X07, X08, X09, X10, X11, X12, X13, X14, X15, X16, X17, X18, X19, X20, X21, X22, X23, X24, X25, X26, X27, X28, X29, X30, X31, X32, X33, X34, X35])
    (W_l_flags : CalW P w K mg base 2 "_law_flags" ["_law_e"] (spFlags K [X00, X01, X02, X03, X04, X05, X06, X07, X08, X09, X10, X11, X12, X13, X14, X15, X16, X17, X18, X19, X20, X21, X22, X23, X24, X25, X26, X27, X28, X29, X30, X31, X32, X33, X34, X35])) (W_l_kept : CalW P w K mg base 2 "_law_kept" ["_law_e", "_law_k"] (spKept [X00, X01, X02, X03, X04, X05, X06, X07, X08, X09, X10, X11, X12, X13, X14, X15, X16, X17, X18, X19, X20, X21, X22, X23, X24, X25, X26, X27, X28, X29, X30, X31, X32, X33, X34, X35])) : FnOk P w K mg base CX0 3 f fd ["_law_k", "_law_thing_here"] (spRaised [X00, X01, X02, X03, X04, X05, X06, X07, X08, X09, X10, X11, X12, X13, X14, X15, X16, X17, X18, X19, X20, X21, X22, X23, X24, X25, X26, X27, X28, X29, X30, X31, X32, X33, X34, X35]) := by
  refine F.ok sc_l_raised (fun vs H Q E h => ?_) (fun cdv A outer s H vs Q E hr h => ?_)
  · obtain ⟨_, _, rfl, _⟩ := h
    rfl
  · obtain ⟨k, x, rfl, k8, q⟩ := h
    refine ⟨_, (pss_cons (ps_set (i := 2) sc_l_raised.nd rfl (Or.inl rfl) pe_non)
      (pss_cons (ps_tryC sc_l_raised.nd rfl rfl takesN
      (fun W pn xe tk hp => psEq (pss_cons (ps_if (pt_cmpR op_eq (pv 0) pe_int (nomark _))
      (pss_one (ps_raiseS rfl tk E_BadWork hr (by rfl) (pa_cons (pv 1) pa_nil)))
      pss_nil)
      (pss_cons (ps_if (pt_cmpR op_eq (pv 0) pe_int (nomark _))
      (pss_one (ps_raiseS rfl tk E_NoStand hr (by rfl) (pa_cons (pv 1) pa_nil)))
      pss_nil)
      (pss_cons (ps_if (pt_cmpR op_eq (pv 0) pe_int (nomark _))
      (pss_one (ps_raiseS rfl tk E_NoStep hr (by rfl) (pa_cons (pv 1) pa_nil)))
      pss_nil)
      (pss_cons (ps_if (pt_cmpR op_eq (pv 0) pe_int (nomark _))
      (pss_one (ps_raiseS rfl tk E_BadRun hr (by rfl) (pa_cons (pv 1) pa_nil)))
      pss_nil)
      (pss_cons (ps_if (pt_cmpR op_eq (pv 0) pe_int (nomark _))
      (pss_one (ps_raiseS rfl tk E_TooMany hr (by rfl) (pa_cons (pv 1) pa_nil)))
      pss_nil)
      (pss_cons (ps_if (pt_cmpR op_eq (pv 0) pe_int (nomark _))
      (pss_one (ps_raiseS rfl tk E_BadLog hr (by rfl) (pa_cons (pv 1) pa_nil)))
      pss_nil)
      (pss_cons (ps_if (pt_cmpR op_eq (pv 0) pe_int (nomark _))
      (pss_one (ps_raiseS rfl tk E_BadText hr (by rfl) (pa_cons (pv 1) pa_nil)))
      pss_nil)
      (pss_one (ps_raiseS rfl tk E_NoName hr (by rfl) (pa_cons (pv 1) pa_nil)))))))))))
      (.named (i := 3) rfl rfl ⟨by rfl, by decide, .inl G_OwnError⟩
      (fun a oe cls d pn hz hf hnb => psEq (pss_one (ps_set (i := 2) sc_l_raised.nd rfl (Or.inl rfl) (pe_tup (pa_cons (pe_calW W_l_flags hr (by rfl) hz hf hnb (pv 3)) (pa_cons (pe_calWA W_l_kept hr (by rfl) hz hf hnb (pa_cons (pv 3) (pa_cons (pv 0) pa_nil))) pa_nil)))))) .nil))
      (pss_one (ps_ret (pv 2))))), ?_⟩
    walk_at "go"
    refine x_tryC ?_
    walk_at "go"
    have kk : k = 0 ∨ k = 1 ∨ k = 2 ∨ k = 3 ∨ k = 4 ∨ k = 5 ∨ k = 6 ∨ k = 7 := by omega
    rcases kk with rfl | rfl | rfl | rfl | rfl | rfl | rfl | rfl
    · skip
      refine x_yes (by decide) ?_
      walk_at "go"
      refine x_raiseS ?_
      walk_at "go"
      refine ⟨_, rfl, fun d nd => ?_⟩
      refine x_hitN m0 (fun ex hex => ?_)
      have hd : (upd H d (.xd [("part", x)])) d = some (.xd [("part", x)]) := upd_same
      have s1 : L2.Same H (upd H d (.xd [("part", x)])) := same_new nd
      generalize upd H d (.xd [("part", x)]) = H1 at hd s1 hex ⊢
      walk_at "go"
      refine x_callE ?_
      walk_at "go"
      refine ⟨rfl, fun nx oe => ?_⟩
      have ndx : d ≠ ex := fun e => by rw [← e, hd] at nx; cases nx
      have exo : ∀ oe, Ex10 [X00, X01, X02, X03, X04, X05, X06, X07, X08, X09, X10, X11, X12, X13, X14, X15, X16, X17, X18, X19, X20, X21, X22, X23, X24, X25, X26, X27, X28, X29, X30, X31, X32, X33, X34, X35] (upd H1 ex (.frz oe (EcO (.ref X00) (some d) ex))) 0 x ex X00 (some d) := fun oe => ⟨rfl, ⟨oe, upd_same⟩, (fun dd z => by cases z; exact ⟨_, by rw [upd_ne ndx]; exact hd⟩), fun _ => ⟨d, rfl, by rw [upd_ne ndx]; exact hd⟩⟩
      refine ⟨0, x, ex, X00, some d, rfl, exo oe, xa 0 _ rfl, fun H2 p s2 np hp => ?_⟩
      have s3 := delH_sameN nx s2
      have npx : p ≠ ex := fun e => by rw [e, upd_same] at np; cases np
      have hp3 : (delH H2 ex) p = some (.lst (flagsV 0)) := by rw [delH_ne npx]; exact hp
      have nx3 : (delH H2 ex) ex = none := delH_same
      walk_at "go"
      refine x_callEA ?_
      walk_at "go"
      refine ⟨_, rfl, fun nx2 oe2 => ?_⟩
      refine ⟨0, x, ex, X00, some d, rfl, ⟨rfl, ⟨oe2, upd_same⟩, (fun dd z => by cases z; exact ⟨_, by rw [upd_ne ndx]; exact s3 _ _ hd⟩), fun _ => ⟨d, rfl, by rw [upd_ne ndx]; exact s3 _ _ hd⟩⟩, by decide, fun H4 s4 => ?_⟩
      have s5 := delH_sameN nx2 s4
      have hp5 := s5 _ _ hp3
      walk_at "go"
      refine ⟨sz_le (by simp), fun T nT => ?_⟩
      walk_at "go"
      refine x_sEnd ?_
      walk_at "go"
      exact q _ T p (s1.trans (s3.trans (s5.trans (same_new nT)))) (same_new nT _ _ hp5) upd_same
    · skip
      refine x_no (by decide) ?_
      walk_at "go"
      refine x_yes (by decide) ?_
      walk_at "go"
      refine x_raiseS ?_
      walk_at "go"
      refine ⟨_, rfl, fun d nd => ?_⟩
      refine x_hitN m1 (fun ex hex => ?_)
      have hd : (upd H d (.xd [("name", x)])) d = some (.xd [("name", x)]) := upd_same
      have s1 : L2.Same H (upd H d (.xd [("name", x)])) := same_new nd
      generalize upd H d (.xd [("name", x)]) = H1 at hd s1 hex ⊢
      walk_at "go"
      refine x_callE ?_
      walk_at "go"
      refine ⟨rfl, fun nx oe => ?_⟩
      have ndx : d ≠ ex := fun e => by rw [← e, hd] at nx; cases nx
      have exo : ∀ oe, Ex10 [X00, X01, X02, X03, X04, X05, X06, X07, X08, X09, X10, X11, X12, X13, X14, X15, X16, X17, X18, X19, X20, X21, X22, X23, X24, X25, X26, X27, X28, X29, X30, X31, X32, X33, X34, X35] (upd H1 ex (.frz oe (EcO (.ref X01) (some d) ex))) 1 x ex X01 (some d) := fun oe => ⟨rfl, ⟨oe, upd_same⟩, (fun dd z => by cases z; exact ⟨_, by rw [upd_ne ndx]; exact hd⟩), fun _ => ⟨d, rfl, by rw [upd_ne ndx]; exact hd⟩⟩
      refine ⟨1, x, ex, X01, some d, rfl, exo oe, xa 1 _ rfl, fun H2 p s2 np hp => ?_⟩
      have s3 := delH_sameN nx s2
      have npx : p ≠ ex := fun e => by rw [e, upd_same] at np; cases np
      have hp3 : (delH H2 ex) p = some (.lst (flagsV 1)) := by rw [delH_ne npx]; exact hp
      have nx3 : (delH H2 ex) ex = none := delH_same
      walk_at "go"
      refine x_callEA ?_
      walk_at "go"
      refine ⟨_, rfl, fun nx2 oe2 => ?_⟩
      refine ⟨1, x, ex, X01, some d, rfl, ⟨rfl, ⟨oe2, upd_same⟩, (fun dd z => by cases z; exact ⟨_, by rw [upd_ne ndx]; exact s3 _ _ hd⟩), fun _ => ⟨d, rfl, by rw [upd_ne ndx]; exact s3 _ _ hd⟩⟩, by decide, fun H4 s4 => ?_⟩
      have s5 := delH_sameN nx2 s4
      have hp5 := s5 _ _ hp3
      walk_at "go"
      refine ⟨sz_le (by simp), fun T nT => ?_⟩
      walk_at "go"
      refine x_sEnd ?_
      walk_at "go"
      exact q _ T p (s1.trans (s3.trans (s5.trans (same_new nT)))) (same_new nT _ _ hp5) upd_same
    · skip
      refine x_no (by decide) ?_
      walk_at "go"
      refine x_no (by decide) ?_
      walk_at "go"
      refine x_yes (by decide) ?_
      walk_at "go"
      refine x_raiseS ?_
      walk_at "go"
      refine ⟨_, rfl, fun d nd => ?_⟩
      refine x_hitN m2 (fun ex hex => ?_)
      have hd : (upd H d (.xd [("name", x)])) d = some (.xd [("name", x)]) := upd_same
      have s1 : L2.Same H (upd H d (.xd [("name", x)])) := same_new nd
      generalize upd H d (.xd [("name", x)]) = H1 at hd s1 hex ⊢
      walk_at "go"
      refine x_callE ?_
      walk_at "go"
      refine ⟨rfl, fun nx oe => ?_⟩
      have ndx : d ≠ ex := fun e => by rw [← e, hd] at nx; cases nx
      have exo : ∀ oe, Ex10 [X00, X01, X02, X03, X04, X05, X06, X07, X08, X09, X10, X11, X12, X13, X14, X15, X16, X17, X18, X19, X20, X21, X22, X23, X24, X25, X26, X27, X28, X29, X30, X31, X32, X33, X34, X35] (upd H1 ex (.frz oe (EcO (.ref X02) (some d) ex))) 2 x ex X02 (some d) := fun oe => ⟨rfl, ⟨oe, upd_same⟩, (fun dd z => by cases z; exact ⟨_, by rw [upd_ne ndx]; exact hd⟩), fun _ => ⟨d, rfl, by rw [upd_ne ndx]; exact hd⟩⟩
      refine ⟨2, x, ex, X02, some d, rfl, exo oe, xa 2 _ rfl, fun H2 p s2 np hp => ?_⟩
      have s3 := delH_sameN nx s2
      have npx : p ≠ ex := fun e => by rw [e, upd_same] at np; cases np
      have hp3 : (delH H2 ex) p = some (.lst (flagsV 2)) := by rw [delH_ne npx]; exact hp
      have nx3 : (delH H2 ex) ex = none := delH_same
      walk_at "go"
      refine x_callEA ?_
      walk_at "go"
      refine ⟨_, rfl, fun nx2 oe2 => ?_⟩
      refine ⟨2, x, ex, X02, some d, rfl, ⟨rfl, ⟨oe2, upd_same⟩, (fun dd z => by cases z; exact ⟨_, by rw [upd_ne ndx]; exact s3 _ _ hd⟩), fun _ => ⟨d, rfl, by rw [upd_ne ndx]; exact s3 _ _ hd⟩⟩, by decide, fun H4 s4 => ?_⟩
      have s5 := delH_sameN nx2 s4
      have hp5 := s5 _ _ hp3
      walk_at "go"
      refine ⟨sz_le (by simp), fun T nT => ?_⟩
      walk_at "go"
      refine x_sEnd ?_
      walk_at "go"
      exact q _ T p (s1.trans (s3.trans (s5.trans (same_new nT)))) (same_new nT _ _ hp5) upd_same
    · skip
      refine x_no (by decide) ?_
      walk_at "go"
      refine x_no (by decide) ?_
      walk_at "go"
      refine x_no (by decide) ?_
      walk_at "go"
      refine x_yes (by decide) ?_
      walk_at "go"
      refine x_raiseS ?_
      walk_at "go"
      refine ⟨_, rfl, fun d nd => ?_⟩
      refine x_hitN m3 (fun ex hex => ?_)
      have hd : (upd H d (.xd [("index", x)])) d = some (.xd [("index", x)]) := upd_same
      have s1 : L2.Same H (upd H d (.xd [("index", x)])) := same_new nd
      generalize upd H d (.xd [("index", x)]) = H1 at hd s1 hex ⊢
      walk_at "go"
      refine x_callE ?_
      walk_at "go"
      refine ⟨rfl, fun nx oe => ?_⟩
      have ndx : d ≠ ex := fun e => by rw [← e, hd] at nx; cases nx
      have exo : ∀ oe, Ex10 [X00, X01, X02, X03, X04, X05, X06, X07, X08, X09, X10, X11, X12, X13, X14, X15, X16, X17, X18, X19, X20, X21, X22, X23, X24, X25, X26, X27, X28, X29, X30, X31, X32, X33, X34, X35] (upd H1 ex (.frz oe (EcO (.ref X03) (some d) ex))) 3 x ex X03 (some d) := fun oe => ⟨rfl, ⟨oe, upd_same⟩, (fun dd z => by cases z; exact ⟨_, by rw [upd_ne ndx]; exact hd⟩), fun _ => ⟨d, rfl, by rw [upd_ne ndx]; exact hd⟩⟩
      refine ⟨3, x, ex, X03, some d, rfl, exo oe, xa 3 _ rfl, fun H2 p s2 np hp => ?_⟩
      have s3 := delH_sameN nx s2
      have npx : p ≠ ex := fun e => by rw [e, upd_same] at np; cases np
      have hp3 : (delH H2 ex) p = some (.lst (flagsV 3)) := by rw [delH_ne npx]; exact hp
      have nx3 : (delH H2 ex) ex = none := delH_same
      walk_at "go"
      refine x_callEA ?_
      walk_at "go"
      refine ⟨_, rfl, fun nx2 oe2 => ?_⟩
      refine ⟨3, x, ex, X03, some d, rfl, ⟨rfl, ⟨oe2, upd_same⟩, (fun dd z => by cases z; exact ⟨_, by rw [upd_ne ndx]; exact s3 _ _ hd⟩), fun _ => ⟨d, rfl, by rw [upd_ne ndx]; exact s3 _ _ hd⟩⟩, by decide, fun H4 s4 => ?_⟩
      have s5 := delH_sameN nx2 s4
      have hp5 := s5 _ _ hp3
      walk_at "go"
      refine ⟨sz_le (by simp), fun T nT => ?_⟩
      walk_at "go"
      refine x_sEnd ?_
      walk_at "go"
      exact q _ T p (s1.trans (s3.trans (s5.trans (same_new nT)))) (same_new nT _ _ hp5) upd_same
    · skip
      refine x_no (by decide) ?_
      walk_at "go"
      refine x_no (by decide) ?_
      walk_at "go"
      refine x_no (by decide) ?_
      walk_at "go"
      refine x_no (by decide) ?_
      walk_at "go"
      refine x_yes (by decide) ?_
      walk_at "go"
      refine x_raiseS ?_
      walk_at "go"
      refine ⟨_, rfl, fun d nd => ?_⟩
      refine x_hitN m4 (fun ex hex => ?_)
      have hd : (upd H d (.xd [("most", x)])) d = some (.xd [("most", x)]) := upd_same
      have s1 : L2.Same H (upd H d (.xd [("most", x)])) := same_new nd
      generalize upd H d (.xd [("most", x)]) = H1 at hd s1 hex ⊢
      walk_at "go"
      refine x_callE ?_
      walk_at "go"
      refine ⟨rfl, fun nx oe => ?_⟩
      have ndx : d ≠ ex := fun e => by rw [← e, hd] at nx; cases nx
      have exo : ∀ oe, Ex10 [X00, X01, X02, X03, X04, X05, X06, X07, X08, X09, X10, X11, X12, X13, X14, X15, X16, X17, X18, X19, X20, X21, X22, X23, X24, X25, X26, X27, X28, X29, X30, X31, X32, X33, X34, X35] (upd H1 ex (.frz oe (EcO (.ref X04) (some d) ex))) 4 x ex X04 (some d) := fun oe => ⟨rfl, ⟨oe, upd_same⟩, (fun dd z => by cases z; exact ⟨_, by rw [upd_ne ndx]; exact hd⟩), fun _ => ⟨d, rfl, by rw [upd_ne ndx]; exact hd⟩⟩
      refine ⟨4, x, ex, X04, some d, rfl, exo oe, xa 4 _ rfl, fun H2 p s2 np hp => ?_⟩
      have s3 := delH_sameN nx s2
      have npx : p ≠ ex := fun e => by rw [e, upd_same] at np; cases np
      have hp3 : (delH H2 ex) p = some (.lst (flagsV 4)) := by rw [delH_ne npx]; exact hp
      have nx3 : (delH H2 ex) ex = none := delH_same
      walk_at "go"
      refine x_callEA ?_
      walk_at "go"
      refine ⟨_, rfl, fun nx2 oe2 => ?_⟩
      refine ⟨4, x, ex, X04, some d, rfl, ⟨rfl, ⟨oe2, upd_same⟩, (fun dd z => by cases z; exact ⟨_, by rw [upd_ne ndx]; exact s3 _ _ hd⟩), fun _ => ⟨d, rfl, by rw [upd_ne ndx]; exact s3 _ _ hd⟩⟩, by decide, fun H4 s4 => ?_⟩
      have s5 := delH_sameN nx2 s4
      have hp5 := s5 _ _ hp3
      walk_at "go"
      refine ⟨sz_le (by simp), fun T nT => ?_⟩
      walk_at "go"
      refine x_sEnd ?_
      walk_at "go"
      exact q _ T p (s1.trans (s3.trans (s5.trans (same_new nT)))) (same_new nT _ _ hp5) upd_same
    · skip
      refine x_no (by decide) ?_
      walk_at "go"
      refine x_no (by decide) ?_
      walk_at "go"
      refine x_no (by decide) ?_
      walk_at "go"
      refine x_no (by decide) ?_
      walk_at "go"
      refine x_no (by decide) ?_
      walk_at "go"
      refine x_yes (by decide) ?_
      walk_at "go"
      refine x_raiseS ?_
      walk_at "go"
      refine ⟨_, rfl, fun d nd => ?_⟩
      refine x_hitN m5 (fun ex hex => ?_)
      have hd : (upd H d (.xd [("index", x)])) d = some (.xd [("index", x)]) := upd_same
      have s1 : L2.Same H (upd H d (.xd [("index", x)])) := same_new nd
      generalize upd H d (.xd [("index", x)]) = H1 at hd s1 hex ⊢
      walk_at "go"
      refine x_callE ?_
      walk_at "go"
      refine ⟨rfl, fun nx oe => ?_⟩
      have ndx : d ≠ ex := fun e => by rw [← e, hd] at nx; cases nx
      have exo : ∀ oe, Ex10 [X00, X01, X02, X03, X04, X05, X06, X07, X08, X09, X10, X11, X12, X13, X14, X15, X16, X17, X18, X19, X20, X21, X22, X23, X24, X25, X26, X27, X28, X29, X30, X31, X32, X33, X34, X35] (upd H1 ex (.frz oe (EcO (.ref X05) (some d) ex))) 5 x ex X05 (some d) := fun oe => ⟨rfl, ⟨oe, upd_same⟩, (fun dd z => by cases z; exact ⟨_, by rw [upd_ne ndx]; exact hd⟩), fun _ => ⟨d, rfl, by rw [upd_ne ndx]; exact hd⟩⟩
      refine ⟨5, x, ex, X05, some d, rfl, exo oe, xa 5 _ rfl, fun H2 p s2 np hp => ?_⟩
      have s3 := delH_sameN nx s2
      have npx : p ≠ ex := fun e => by rw [e, upd_same] at np; cases np
      have hp3 : (delH H2 ex) p = some (.lst (flagsV 5)) := by rw [delH_ne npx]; exact hp
      have nx3 : (delH H2 ex) ex = none := delH_same
      walk_at "go"
      refine x_callEA ?_
      walk_at "go"
      refine ⟨_, rfl, fun nx2 oe2 => ?_⟩
      refine ⟨5, x, ex, X05, some d, rfl, ⟨rfl, ⟨oe2, upd_same⟩, (fun dd z => by cases z; exact ⟨_, by rw [upd_ne ndx]; exact s3 _ _ hd⟩), fun _ => ⟨d, rfl, by rw [upd_ne ndx]; exact s3 _ _ hd⟩⟩, by decide, fun H4 s4 => ?_⟩
      have s5 := delH_sameN nx2 s4
      have hp5 := s5 _ _ hp3
      walk_at "go"
      refine ⟨sz_le (by simp), fun T nT => ?_⟩
      walk_at "go"
      refine x_sEnd ?_
      walk_at "go"
      exact q _ T p (s1.trans (s3.trans (s5.trans (same_new nT)))) (same_new nT _ _ hp5) upd_same
    · skip
      refine x_no (by decide) ?_
      walk_at "go"
      refine x_no (by decide) ?_
      walk_at "go"
      refine x_no (by decide) ?_
      walk_at "go"
      refine x_no (by decide) ?_
      walk_at "go"
      refine x_no (by decide) ?_
      walk_at "go"
      refine x_no (by decide) ?_
      walk_at "go"
      refine x_yes (by decide) ?_
      walk_at "go"
      refine x_raiseS ?_
      walk_at "go"
      refine ⟨_, rfl, fun d nd => ?_⟩
      refine x_hitN m6 (fun ex hex => ?_)
      have hd : (upd H d (.xd [("line", x)])) d = some (.xd [("line", x)]) := upd_same
      have s1 : L2.Same H (upd H d (.xd [("line", x)])) := same_new nd
      generalize upd H d (.xd [("line", x)]) = H1 at hd s1 hex ⊢
      walk_at "go"
      refine x_callE ?_
      walk_at "go"
      refine ⟨rfl, fun nx oe => ?_⟩
      have ndx : d ≠ ex := fun e => by rw [← e, hd] at nx; cases nx
      have exo : ∀ oe, Ex10 [X00, X01, X02, X03, X04, X05, X06, X07, X08, X09, X10, X11, X12, X13, X14, X15, X16, X17, X18, X19, X20, X21, X22, X23, X24, X25, X26, X27, X28, X29, X30, X31, X32, X33, X34, X35] (upd H1 ex (.frz oe (EcO (.ref X06) (some d) ex))) 6 x ex X06 (some d) := fun oe => ⟨rfl, ⟨oe, upd_same⟩, (fun dd z => by cases z; exact ⟨_, by rw [upd_ne ndx]; exact hd⟩), fun _ => ⟨d, rfl, by rw [upd_ne ndx]; exact hd⟩⟩
      refine ⟨6, x, ex, X06, some d, rfl, exo oe, xa 6 _ rfl, fun H2 p s2 np hp => ?_⟩
      have s3 := delH_sameN nx s2
      have npx : p ≠ ex := fun e => by rw [e, upd_same] at np; cases np
      have hp3 : (delH H2 ex) p = some (.lst (flagsV 6)) := by rw [delH_ne npx]; exact hp
      have nx3 : (delH H2 ex) ex = none := delH_same
      walk_at "go"
      refine x_callEA ?_
      walk_at "go"
      refine ⟨_, rfl, fun nx2 oe2 => ?_⟩
      refine ⟨6, x, ex, X06, some d, rfl, ⟨rfl, ⟨oe2, upd_same⟩, (fun dd z => by cases z; exact ⟨_, by rw [upd_ne ndx]; exact s3 _ _ hd⟩), fun _ => ⟨d, rfl, by rw [upd_ne ndx]; exact s3 _ _ hd⟩⟩, by decide, fun H4 s4 => ?_⟩
      have s5 := delH_sameN nx2 s4
      have hp5 := s5 _ _ hp3
      walk_at "go"
      refine ⟨sz_le (by simp), fun T nT => ?_⟩
      walk_at "go"
      refine x_sEnd ?_
      walk_at "go"
      exact q _ T p (s1.trans (s3.trans (s5.trans (same_new nT)))) (same_new nT _ _ hp5) upd_same
    · skip
      refine x_no (by decide) ?_
      walk_at "go"
      refine x_no (by decide) ?_
      walk_at "go"
      refine x_no (by decide) ?_
      walk_at "go"
      refine x_no (by decide) ?_
      walk_at "go"
      refine x_no (by decide) ?_
      walk_at "go"
      refine x_no (by decide) ?_
      walk_at "go"
      refine x_no (by decide) ?_
      walk_at "go"
      refine x_raiseS ?_
      walk_at "go"
      refine ⟨_, rfl, fun d nd => ?_⟩
      refine x_hitN m7 (fun ex hex => ?_)
      have hd : (upd H d (.xd [("name", x)])) d = some (.xd [("name", x)]) := upd_same
      have s1 : L2.Same H (upd H d (.xd [("name", x)])) := same_new nd
      generalize upd H d (.xd [("name", x)]) = H1 at hd s1 hex ⊢
      walk_at "go"
      refine x_callE ?_
      walk_at "go"
      refine ⟨rfl, fun nx oe => ?_⟩
      have ndx : d ≠ ex := fun e => by rw [← e, hd] at nx; cases nx
      have exo : ∀ oe, Ex10 [X00, X01, X02, X03, X04, X05, X06, X07, X08, X09, X10, X11, X12, X13, X14, X15, X16, X17, X18, X19, X20, X21, X22, X23, X24, X25, X26, X27, X28, X29, X30, X31, X32, X33, X34, X35] (upd H1 ex (.frz oe (EcO (.ref X07) (some d) ex))) 7 x ex X07 (some d) := fun oe => ⟨rfl, ⟨oe, upd_same⟩, (fun dd z => by cases z; exact ⟨_, by rw [upd_ne ndx]; exact hd⟩), fun _ => ⟨d, rfl, by rw [upd_ne ndx]; exact hd⟩⟩
      refine ⟨7, x, ex, X07, some d, rfl, exo oe, xa 7 _ rfl, fun H2 p s2 np hp => ?_⟩
      have s3 := delH_sameN nx s2
      have npx : p ≠ ex := fun e => by rw [e, upd_same] at np; cases np
      have hp3 : (delH H2 ex) p = some (.lst (flagsV 7)) := by rw [delH_ne npx]; exact hp
      have nx3 : (delH H2 ex) ex = none := delH_same
      walk_at "go"
      refine x_callEA ?_
      walk_at "go"
      refine ⟨_, rfl, fun nx2 oe2 => ?_⟩
      refine ⟨7, x, ex, X07, some d, rfl, ⟨rfl, ⟨oe2, upd_same⟩, (fun dd z => by cases z; exact ⟨_, by rw [upd_ne ndx]; exact s3 _ _ hd⟩), fun _ => ⟨d, rfl, by rw [upd_ne ndx]; exact s3 _ _ hd⟩⟩, by decide, fun H4 s4 => ?_⟩
      have s5 := delH_sameN nx2 s4
      have hp5 := s5 _ _ hp3
      walk_at "go"
      refine ⟨sz_le (by simp), fun T nT => ?_⟩
      walk_at "go"
      refine x_sEnd ?_
      walk_at "go"
      exact q _ T p (s1.trans (s3.trans (s5.trans (same_new nT)))) (same_new nT _ _ hp5) upd_same
theorem ok_law {f : Addr} {fd : FuncData} (F : Fun K "law" "law" s_law f fd) (Z_range : mg "range" = none) (Z_isinstance : mg "isinstance" = none) (Z_ValueError : mg "ValueError" = none) (G_OwnError : mg "OwnError" = some (.ref CO)) (kup : KitUp K [X00, X01, X02, X03, X04, X05, X06, X07, X08, X09, X10, X11, X12, X13, X14, X15, X16, X17, X18, X19, X20, X21, X22, X23, X24, X25, X26, X27, X28, X29, X30, X31, X32, X33, X34, X35] CO) (kut : KitUpT K [X00, X01, X02, X03, X04, X05, X06, X07, X08, X09, X10, X11, X12, X13, X14, X15, X16, X17, X18, X19, X20, X21, X22, X23, X24, X25, X26, X27, X28, X29, X30, X31, X32, X33, X34, X35] "ValueError") (xa : ExcAll K [X00, X01, X02, X03, X04, X05, X06, X07, X08, X09, X10, X11, X12, X13, X14, X15, X16, X17, X18, X19, X20, X21, X22, X23, X24, X25, X26, X27, X28, X29, X30, X31, X32, X33, X34, X35])
    (C_pool : Cal P w K mg base 1 "_law_pool" ["_law_script"] (spPool K)) (C_draw : Cal P w K mg base 1 "_law_draw" ["_law_pool_here", "_law_many"] spDraw) (C_word : Cal P w K mg base 2 "_law_word" ["_law_pool_here", "_law_longest"] spWord) (C_l_thing : Cal P w K mg base 2 "_law_thing" ["_law_pool_here"] (spThing10 K)) (C_l_made : Cal P w K mg base 2 "_law_made" ["_law_k", "_law_thing_here"] (spMade [X00, X01, X02, X03, X04, X05, X06, X07, X08, X09, X10, X11, X12, X13, X14, X15, X16, X17, X18, X19, X20, X21, X22, X23, X24, X25, X26, X27, X28, X29, X30, X31, X32, X33, X34, X35]))
    (C_l_flags : Cal P w K mg base 2 "_law_flags" ["_law_e"] (spFlags K [X00, X01, X02, X03, X04, X05, X06, X07, X08, X09, X10, X11, X12, X13, X14, X15, X16, X17, X18, X19, X20, X21, X22, X23, X24, X25, X26, X27, X28, X29, X30, X31, X32, X33, X34, X35])) (C_l_kept : Cal P w K mg base 2 "_law_kept" ["_law_e", "_law_k"] (spKept [X00, X01, X02, X03, X04, X05, X06, X07, X08, X09, X10, X11, X12, X13, X14, X15, X16, X17, X18, X19, X20, X21, X22, X23, X24, X25, X26, X27, X28, X29, X30, X31, X32, X33, X34, X35])) (C_l_raised : Cal P w K mg base 3 "_law_raised" ["_law_k", "_law_thing_here"] (spRaised [X00, X01, X02, X03, X04, X05, X06, X07, X08, X09, X10, X11, X12, X13, X14, X15, X16, X17, X18, X19, X20, X21, X22, X23, X24, X25, X26, X27, X28, X29, X30, X31, X32, X33, X34, X35])) : FnOk P w K mg base CX0 4 f fd ["_law_script"] (spLaw K) := by
  refine F.ok sc_law (fun vs H Q E h => ?_) (fun cdv A outer s H vs Q E hr h => ?_)
  · obtain ⟨_, _, rfl, _⟩ := h
    rfl
  · obtain ⟨sa, ns, rfl, hS, hlen, kk⟩ := h
    have hu := hu_of hr
    refine ⟨_, (pss_cons (ps_set (i := 1) sc_law.nd rfl (Or.inl rfl) (pe_cal C_pool (hr.mono (by decide)) (by rfl) (pa_cons (pv 0) pa_nil)))
      (pss_cons (ps_set (i := 2) sc_law.nd rfl (Or.inl rfl) (pe_cal C_draw (hr.mono (by decide)) (by rfl) (pa_cons (pv 1) (pa_cons pe_int pa_nil))))
      (pss_cons (ps_set (i := 3) sc_law.nd rfl (Or.inl rfl) (pe_cal C_l_thing (hr.mono (by decide)) (by rfl) (pa_cons (pv 1) pa_nil)))
      (pss_cons (ps_if (pt_cmpR op_eq (pv 2) pe_int (nomark _))
      (pss_one (ps_set (i := 3) sc_law.nd rfl (Or.inl rfl) (pe_cal C_draw (hr.mono (by decide)) (by rfl) (pa_cons (pv 1) (pa_cons (pe_op op_powW pe_int pe_int) pa_nil)))))
      pss_nil)
      (pss_cons (ps_if (pt_cmpR op_eq (pv 2) pe_int (nomark _))
      (pss_one (ps_set (i := 3) sc_law.nd rfl (Or.inl rfl) (pe_cal C_word (hr.mono (by decide)) (by rfl) (pa_cons (pv 1) (pa_cons pe_int pa_nil)))))
      pss_nil)
      (pss_cons (ps_for PassesOwn.never rfl (pi_list (pe_lst (pa_cons (pe_cal C_draw (hr.mono (by decide)) (by rfl) (pa_cons (pv 1) (pa_cons pe_int pa_nil))) (pa_cons (pe_cal C_draw (hr.mono (by decide)) (by rfl) (pa_cons (pv 1) (pa_cons pe_int pa_nil))) pa_nil)))) (pg_name (i := 4) sc_law.nd rfl (Or.inr rfl))
      (pss_cons (ps_set (i := 5) sc_law.nd rfl (Or.inl rfl) (pe_cal C_l_made (hr.mono (by decide)) (by rfl) (pa_cons (pv 4) (pa_cons (pv 3) pa_nil))))
      (pss_cons (ps_if (PW.pt (pw_or (pt_not (pt_val (pe_callB call_isV (by rfl) Z_isinstance (by decide +kernel) (pa_cons (pv 5) (pa_cons (pe_glob (v := .ref _) (by rfl) G_OwnError rfl) pa_nil))))) (pw_or1 (pt_not (pt_val (pe_callB call_isV (by rfl) Z_isinstance (by decide +kernel) (pa_cons (pv 5) (pa_cons (pe_bltn (v := .ty "ValueError") (by rfl) Z_ValueError (by decide +kernel) rfl) pa_nil))))))))
      (pss_one (ps_ret pe_bl))
      pss_nil)
      (pss_cons (ps_setLc (i := 6) (own := [("_law_j", 7)]) (g := gName 7) (tt := tYes) (by rfl) sc_law.nd rfl rfl (sw_true rfl rfl rfl (by decide +kernel)) (pi_range1 rfl Z_range (pa_cons pe_int pa_nil)) (blkOk_by (own := [("_law_j", 7)]) (N := N_law) (sc := defScope s_law) (by decide +kernel)) (fun _ _ _ _ _ => (pg_name (i := 7) sc_law.nd rfl (Or.inl rfl))) (fun _ _ _ _ _ => pts_nil) (fun _ _ _ _ _ => by exact (pe_cmpR op_eq (pv 7) (pv 4) (nomark _))))
      (pss_cons (ps_if (pt_cmpR (op_neA (hu100 hr)) (pe_cal C_l_flags (hr.mono (by decide)) (by rfl) (pa_cons (pv 5) pa_nil)) (pv 6) (nomark _))
      (pss_one (ps_ret pe_bl))
      pss_nil)
      (pss_one (ps_if (PW.pt (pw_and (pt_cmpR op_lt (pv 4) pe_int (nomark _)) (pw_and1 (PW.pt (pw_or (pt_cmpR (op_or2 (op_neD hr.units) (op_neDD (hu65 hr))) (pe_cal C_l_kept (hr.mono (by decide)) (by rfl) (pa_cons (pv 5) (pa_cons (pv 4) pa_nil))) (pv 3) (nomark _)) (pw_or1 (pt_cmpR (op_neA (hu100 hr)) (pe_cal C_l_raised (hr.mono (by decide)) (by rfl) (pa_cons (pv 4) (pa_cons (pv 3) pa_nil))) (pe_tup (pa_cons (pv 6) (pa_cons (pv 3) pa_nil))) (nomark _))))))))
      (pss_one (ps_ret pe_bl))
      pss_nil)))))))
      (pss_one (ps_ret pe_bl)))))))), ?_⟩
    walk_at "go"
    refine ⟨sa, ns, rfl, hS, hlen, fun H1 p s1 np p1 => ?_⟩
    walk_at "go"
    refine ⟨p, 3, rfl, p1, by decide, by decide, fun H2 kd b2 p2 kd0 kd1 => ?_⟩
    walk_at "go"
    refine ⟨p, rfl, p2, fun H3 x b3 p3 tx => ?_⟩
    have tx3 : Th10 K (wo H3 p) x := tx.same (nw_wo (pool_some p2))
    try dsimp only
    refine x_slots (σ' := [some (.ref sa), some (.ref p), some (.int kd), some x, none, none, none, none]) rfl ?_
    refine x_seq ?_
    refine if_joinH (α := V) (fun y H' => PoolAt H' p ∧ Th10 K (wo H' p) y) (fun y => [some (.ref sa), some (.ref p), some (.int kd), some y, none, none, none, none]) (fun n' hn' => ?_) ?_
    · walk_at "go"
      refine x_dec (fun hk => ?_) (fun hk => ?_)
      · walk_at "go"
        refine ⟨p, _, rfl, p3, by decide +kernel, by decide +kernel, fun H4 r b4 p4 _ _ => ?_⟩
        walk_at "go"
        exact hn' (.int r) H4 ⟨p4, .dat (.int r) (by rfl)⟩
      · walk_at "go"
        exact hn' x H3 ⟨p3, tx3⟩
    rintro y H4 ⟨p4, ty4⟩
    refine x_seq ?_
    refine if_joinH (α := V) (fun y H' => PoolAt H' p ∧ Th10 K (wo H' p) y) (fun y => [some (.ref sa), some (.ref p), some (.int kd), some y, none, none, none, none]) (fun n' hn' => ?_) ?_
    · walk_at "go"
      refine x_dec (fun hk => ?_) (fun hk => ?_)
      · walk_at "go"
        refine ⟨p, 8, rfl, p4, by decide, by decide, fun H5 z b5 p5 nz => ?_⟩
        walk_at "go"
        exact hn' (.str z) H5 ⟨p5, .dat (.str z) (str_shaped nz.ok)⟩
      · walk_at "go"
        exact hn' y H4 ⟨p4, ty4⟩
    rintro t H5 ⟨p5, ty5⟩
    walk_at "go"
    refine ⟨p, 36, rfl, p5, by decide, by decide, fun H6 k1 b6 p6 k10 k11 => ?_⟩
    walk_at "go"
    refine ⟨p, 36, rfl, p6, by decide, by decide, fun H7 k2 b7 p7 k20 k21 => ?_⟩
    walk_at "go"
    refine ⟨sz_le (by simp), fun L nL => ?_⟩
    have s8 : L2.Same H7 (upd H7 L (.lst [.int k1, .int k2])) := same_new nL
    have hL : (upd H7 L (.lst [.int k1, .int k2])) L = some (.lst [.int k1, .int k2]) := upd_same
    have ty8 : Th10 K (upd H7 L (.lst [.int k1, .int k2])) t := (((ty5.same (but_wo b6)).same (but_wo b7)).same wo_same).same s8
    generalize upd H7 L (.lst [.int k1, .int k2]) = H8 at hL ty8 ⊢
    refine lpL (xs := [.int k1, .int k2]) (fun i σ H' => ∃ v4 v5 v6 v7, σ = [some (.ref sa), some (.ref p), some (.int kd), some t, v4, v5, v6, v7] ∧ L2.Same H8 H') (SqL.of hL) ⟨_, _, _, _, rfl, L2.Same.refl _⟩ (fun i σ H' _ ⟨_, _, _, _, _, s'⟩ => SqL.of (s' _ _ hL)) ?_ ?_
    · rintro i y σ H9 hy ⟨v4, v5, v6, v7, rfl, s9⟩
      obtain ⟨k, k36, rfl⟩ : ∃ k : Nat, k < 36 ∧ V.int k = y := by
        match i, hy with
        | 0, hy => exact ⟨k1.toNat, by omega, by rw [← Option.some.inj hy]; congr 1; omega⟩
        | 1, hy => exact ⟨k2.toNat, by omega, by rw [← Option.some.inj hy]; congr 1; omega⟩
      have ty9 := ty8.same s9
      walk_at "go"
      refine ⟨k, t, rfl, k36, fun HA a D d sA ex => ?_⟩
      have tyA := ty9.same sA
      have ec := xa _ _ ex.cl
      walk_at "go"
      refine x_isV ex.ec ex.fs ec (kup _ _ ex.cl) ?_
      walk_at "go"
      refine x_isVT ex.ec ex.fs ec (kut _ _ ex.cl) ?_
      walk_at "go"
      refine runR ⟨by decide, by decide⟩ ?_
      intro B hB
      refine lcR (fun i H' => L2.Same HA H' ∧ H' B = some (.lst (((List.range i).map fun j => decide (k = j)).map V.bl))) ?_ ?_ ?_
      · exact ⟨same_new hB, upd_same⟩
      · rintro j H2 hj ⟨s2, hB2⟩
        walk_at "go"
        refine ⟨rfl, ?_⟩
        walk_at "go"
        refine ⟨_, hB2, sz_lt (by rw [List.length_map, List.length_map, List.length_range]; exact Nat.lt_of_lt_of_le hj (by decide)), same_upd s2 hB, ?_⟩
        rw [upd_same, List.range_succ, List.map_append, List.map_append]
        have e : decide ((j : Int) = (k : Int)) = decide (k = j) := decide_eq_decide.mpr (by omega)
        rw [e]
        rfl
      rintro HB ⟨sB, hBB⟩
      have hBB : HB B = some (.lst (((List.range 36).map fun j => decide (k = j)).map V.bl)) := hBB
      walk_at "go"
      refine ⟨k, t, a, D, d, rfl, ex.same sB, ec, fun HC p2 sC np hp2 => ?_⟩
      rw [flags_map] at hp2
      walk_at "go"
      refine ⟨⟨p2, B, _, _, 1, rfl, rfl, by decide, alkA_bls _, .inr ⟨SqL.of hp2, SqL.of (sC _ _ hBB)⟩⟩, ?_⟩
      walk_at "go"
      have sBC := sB.trans sC
      refine x_dec (fun h8 => ?_) (fun h8 => ?_)
      · walk_at "go"
        refine ⟨k, t, a, D, d, rfl, ex.same sBC, by omega, fun HD sD => ?_⟩
        have tyD := (tyA.same sBC).same sD
        walk_at "go"
        refine tyD.ne ?_
        walk_at "go"
        refine ⟨k, t, rfl, by omega, fun HE T A sE hA hT => ?_⟩
        have tyE := tyD.same sE
        rw [flags_map] at hA
        walk_at "go"
        refine ⟨sz_le (by simp), fun U nU => ?_⟩
        have sU : L2.Same HE (upd HE U (.tup [.ref B, t])) := same_new nU
        refine ⟨⟨T, U, [.ref A, t], [.ref B, t], 2, rfl, rfl, by decide, .cons (.lst (SqL.of (sU _ _ hA)) (SqL.of ((sC.trans (sD.trans (sE.trans sU))) _ _ hBB)) (alkA_bls _)) (.cons (tyE.same sU).alk .nil), .inl ⟨SqT.of (sU _ _ hT), SqT.of upd_same⟩⟩, ?_⟩
        walk_at "go"
        exact ⟨_, _, _, _, rfl, s9.trans (sA.trans (sBC.trans (sD.trans (sE.trans sU))))⟩
      · walk_at "go"
        exact ⟨_, _, _, _, rfl, s9.trans (sA.trans sBC)⟩
    · rintro σ H9 ⟨v4, v5, v6, v7, rfl, s9⟩
      walk_at "go"
      exact kk _
end
end Law
namespace Law
open PySem PySem.Spec PyProof.Rows L2 Ox
theorem facts {P : Program} {w : World} {K : PySem.W.Frag} {h : Heap} {mg : Str → Option Value} {f : Addr} (X : K.In h) (G : h.Ns mainGlobals mg) (hfa : mg ("law" : Str) = some (.ref f)) (hPf : ((P.main.file : Str) == "/claim/cut.py") = true) (hPt : (P.main.scope.names.lookup ("super" : Str)).isSome = false) (c2 : Oh.Told2 "/claim/cut.py" faA dsA ssA K) :
    ∃ fd : FuncData, (∀ (s : Shared) (v : Value), BindsTo s fd ⟨[v], []⟩ [("_law_script", v)]) ∧ ∀ base : Heap, K.In base → base.Ns mainGlobals mg → FnOk P w K mg base CX0 4 f fd ["_law_script"] ((spLaw K)) := by
  have c := c2.told
  obtain ⟨_, F_law⟩ := c.def_ 0 (d := d_law) rfl
  have e := hfa.symm.trans (He.glo_ok X G (c.fact 0 (f := Oh.fo (.glo "law")) rfl))
  cases e
  have b := Oh.bindsA (ps := ["_law_script"]) F_law fun _ _ _ _ _ _ us hl => match us, hl with | [_], _ => rfl
  refine ⟨_, fun s v => b s [v] rfl, fun base _ _ => ?_⟩
  have x1 : mg "range" = none := He.free_ok X G (c.fact 1 (f := Oh.fo (.free "range")) rfl)
  have x2 : mg "isinstance" = none := He.free_ok X G (c.fact 2 (f := Oh.fo (.free "isinstance")) rfl)
  have x3 : mg "ValueError" = none := He.free_ok X G (c.fact 3 (f := Oh.fo (.free "ValueError")) rfl)
  have x4 : mg "OwnError" = some (.ref (He.ga K "OwnError")) := He.glo_ok X G (c.fact 4 (f := Oh.fo (.glo "OwnError")) rfl)
  have x5 : KitUp K [(He.ga K "BadWork"), (He.ga K "NoStand"), (He.ga K "NoStep"), (He.ga K "BadRun"), (He.ga K "TooMany"), (He.ga K "BadLog"), (He.ga K "BadText"), (He.ga K "NoName"), (He.ga K "BadLot"), (He.ga K "BadWish"), (He.ga K "Unsuited"), (He.ga K "BadNumber"), (He.ga K "NoChance"), (He.ga K "BadFraction"), (He.ga K "BadRing"), (He.ga K "BadLooks"), (He.ga K "BadKnowledge"), (He.ga K "BadLook"), (He.ga K "BadHand"), (He.ga K "NoRun"), (He.ga K "BadProgram"), (He.ga K "BadPrograms"), (He.ga K "TooLarge"), (He.ga K "Ringed"), (He.ga K "BadBook"), (He.ga K "BadPrices"), (He.ga K "BadFalls"), (He.ga K "NoEnd"), (He.ga K "LastStep"), (He.ga K "NoHand"), (He.ga K "BadName"), (He.ga K "BadOrder"), (He.ga K "NotNow"), (He.ga K "NoLine"), (He.ga K "NoBench"), (He.ga K "NothingDone")] (He.ga K "OwnError") := kitUpF_ok (c.fact 5 (f := kitUpF ("BadWork" :: "NoStand" :: "NoStep" :: "BadRun" :: "TooMany" :: "BadLog" :: "BadText" :: "NoName" :: "BadLot" :: "BadWish" :: "Unsuited" :: "BadNumber" :: "NoChance" :: "BadFraction" :: "BadRing" :: "BadLooks" :: "BadKnowledge" :: "BadLook" :: "BadHand" :: "NoRun" :: "BadProgram" :: "BadPrograms" :: "TooLarge" :: "Ringed" :: "BadBook" :: "BadPrices" :: "BadFalls" :: "NoEnd" :: "LastStep" :: "NoHand" :: "BadName" :: "BadOrder" :: "NotNow" :: "NoLine" :: "NoBench" :: "NothingDone" :: [] : List Str) "OwnError") rfl)
  have x6 : KitUpT K [(He.ga K "BadWork"), (He.ga K "NoStand"), (He.ga K "NoStep"), (He.ga K "BadRun"), (He.ga K "TooMany"), (He.ga K "BadLog"), (He.ga K "BadText"), (He.ga K "NoName"), (He.ga K "BadLot"), (He.ga K "BadWish"), (He.ga K "Unsuited"), (He.ga K "BadNumber"), (He.ga K "NoChance"), (He.ga K "BadFraction"), (He.ga K "BadRing"), (He.ga K "BadLooks"), (He.ga K "BadKnowledge"), (He.ga K "BadLook"), (He.ga K "BadHand"), (He.ga K "NoRun"), (He.ga K "BadProgram"), (He.ga K "BadPrograms"), (He.ga K "TooLarge"), (He.ga K "Ringed"), (He.ga K "BadBook"), (He.ga K "BadPrices"), (He.ga K "BadFalls"), (He.ga K "NoEnd"), (He.ga K "LastStep"), (He.ga K "NoHand"), (He.ga K "BadName"), (He.ga K "BadOrder"), (He.ga K "NotNow"), (He.ga K "NoLine"), (He.ga K "NoBench"), (He.ga K "NothingDone")] "ValueError" := kitUpTF_ok (c.fact 6 (f := kitUpTF ("BadWork" :: "NoStand" :: "NoStep" :: "BadRun" :: "TooMany" :: "BadLog" :: "BadText" :: "NoName" :: "BadLot" :: "BadWish" :: "Unsuited" :: "BadNumber" :: "NoChance" :: "BadFraction" :: "BadRing" :: "BadLooks" :: "BadKnowledge" :: "BadLook" :: "BadHand" :: "NoRun" :: "BadProgram" :: "BadPrograms" :: "TooLarge" :: "Ringed" :: "BadBook" :: "BadPrices" :: "BadFalls" :: "NoEnd" :: "LastStep" :: "NoHand" :: "BadName" :: "BadOrder" :: "NotNow" :: "NoLine" :: "NoBench" :: "NothingDone" :: [] : List Str) "ValueError") rfl)
  have x7 : ExcAll K [(He.ga K "BadWork"), (He.ga K "NoStand"), (He.ga K "NoStep"), (He.ga K "BadRun"), (He.ga K "TooMany"), (He.ga K "BadLog"), (He.ga K "BadText"), (He.ga K "NoName"), (He.ga K "BadLot"), (He.ga K "BadWish"), (He.ga K "Unsuited"), (He.ga K "BadNumber"), (He.ga K "NoChance"), (He.ga K "BadFraction"), (He.ga K "BadRing"), (He.ga K "BadLooks"), (He.ga K "BadKnowledge"), (He.ga K "BadLook"), (He.ga K "BadHand"), (He.ga K "NoRun"), (He.ga K "BadProgram"), (He.ga K "BadPrograms"), (He.ga K "TooLarge"), (He.ga K "Ringed"), (He.ga K "BadBook"), (He.ga K "BadPrices"), (He.ga K "BadFalls"), (He.ga K "NoEnd"), (He.ga K "LastStep"), (He.ga K "NoHand"), (He.ga K "BadName"), (He.ga K "BadOrder"), (He.ga K "NotNow"), (He.ga K "NoLine"), (He.ga K "NoBench"), (He.ga K "NothingDone")] := excAllF_ok (c.fact 7 (f := excAllF ("BadWork" :: "NoStand" :: "NoStep" :: "BadRun" :: "TooMany" :: "BadLog" :: "BadText" :: "NoName" :: "BadLot" :: "BadWish" :: "Unsuited" :: "BadNumber" :: "NoChance" :: "BadFraction" :: "BadRing" :: "BadLooks" :: "BadKnowledge" :: "BadLook" :: "BadHand" :: "NoRun" :: "BadProgram" :: "BadPrograms" :: "TooLarge" :: "Ringed" :: "BadBook" :: "BadPrices" :: "BadFalls" :: "NoEnd" :: "LastStep" :: "NoHand" :: "BadName" :: "BadOrder" :: "NotNow" :: "NoLine" :: "NoBench" :: "NothingDone" :: [] : List Str)) rfl)
  obtain ⟨_, F_pool⟩ := c.def_ 1 (d := d_pool) rfl
  have x8 : mg "len" = none := He.free_ok X G (c.fact 8 (f := Oh.fo (.free "len")) rfl)
  have x9 : mg "int" = none := He.free_ok X G (c.fact 9 (f := Oh.fo (.free "int")) rfl)
  have x10 : mg "min" = none := He.free_ok X G (c.fact 10 (f := Oh.fo (.free "min")) rfl)
  have x11 : Cal P w K mg base 1 "_law_pool" ["_law_script"] (spPool K) := ⟨_, _, ok_pool F_pool x8 x9 x10 x1, He.glo_ok X G (c.fact 11 (f := Oh.fo (.glo "_law_pool")) rfl), F_pool.kp, bd_pool F_pool⟩
  obtain ⟨_, F_draw⟩ := c.def_ 2 (d := d_draw) rfl
  have x12 : Cal P w K mg base 1 "_law_draw" ["_law_pool_here", "_law_many"] spDraw := ⟨_, _, ok_draw F_draw x8 x9, He.glo_ok X G (c.fact 12 (f := Oh.fo (.glo "_law_draw")) rfl), F_draw.kp, bd_draw F_draw⟩
  obtain ⟨_, F_word⟩ := c.def_ 3 (d := d_word) rfl
  have x13 : Cal P w K mg base 2 "_law_word" ["_law_pool_here", "_law_longest"] spWord := ⟨_, _, ok_word F_word x1 x12, He.glo_ok X G (c.fact 13 (f := Oh.fo (.glo "_law_word")) rfl), F_word.kp, bd_word F_word⟩
  obtain ⟨_, F_l_thing⟩ := c.def_ 4 (d := d_l_thing) rfl
  have x14 : Cal P w K mg base 2 "_law_thing" ["_law_pool_here"] (spThing10 K) := ⟨_, _, ok_l_thing F_l_thing x12, He.glo_ok X G (c.fact 14 (f := Oh.fo (.glo "_law_thing")) rfl), F_l_thing.kp, bd_l_thing F_l_thing⟩
  obtain ⟨_, F_l_made⟩ := c.def_ 5 (d := d_l_made) rfl
  have x15 : ExcF P K mg "BadWork" "part" (He.ga K "BadWork") := Oh.supB_ok (d := u_BadWork) (c.fact 17 (f := Oh.supB "BadWork" "part") rfl) (He.glo_ok X G (c.fact 15 (f := Oh.fo (.glo "BadWork")) rfl)) (He.free_ok X G (c.fact 16 (f := Oh.fo (.free "super")) rfl)) hPt hPf (.inl rfl) rfl rfl ⟨_, _, _, _, _, _, _, _, _, _, _, _, _, rfl, rfl, rfl, rfl⟩ (c2.sup 0 (d := u_BadWork) rfl).1 (c2.sup 0 (d := u_BadWork) rfl).2
  have x16 : ExcF P K mg "NoStand" "name" (He.ga K "NoStand") := Oh.supB_ok (d := u_NoStand) (c.fact 19 (f := Oh.supB "NoStand" "name") rfl) (He.glo_ok X G (c.fact 18 (f := Oh.fo (.glo "NoStand")) rfl)) (He.free_ok X G (c.fact 16 (f := Oh.fo (.free "super")) rfl)) hPt hPf (.inr (.inl rfl)) rfl rfl ⟨_, _, _, _, _, _, _, _, _, _, _, _, _, rfl, rfl, rfl, rfl⟩ (c2.sup 1 (d := u_NoStand) rfl).1 (c2.sup 1 (d := u_NoStand) rfl).2
  have x17 : ExcF P K mg "NoStep" "name" (He.ga K "NoStep") := Oh.supB_ok (d := u_NoStep) (c.fact 21 (f := Oh.supB "NoStep" "name") rfl) (He.glo_ok X G (c.fact 20 (f := Oh.fo (.glo "NoStep")) rfl)) (He.free_ok X G (c.fact 16 (f := Oh.fo (.free "super")) rfl)) hPt hPf (.inr (.inl rfl)) rfl rfl ⟨_, _, _, _, _, _, _, _, _, _, _, _, _, rfl, rfl, rfl, rfl⟩ (c2.sup 2 (d := u_NoStep) rfl).1 (c2.sup 2 (d := u_NoStep) rfl).2
  have x18 : ExcF P K mg "BadRun" "index" (He.ga K "BadRun") := Oh.supB_ok (d := u_BadRun) (c.fact 23 (f := Oh.supB "BadRun" "index") rfl) (He.glo_ok X G (c.fact 22 (f := Oh.fo (.glo "BadRun")) rfl)) (He.free_ok X G (c.fact 16 (f := Oh.fo (.free "super")) rfl)) hPt hPf (.inr (.inr (.inl rfl))) rfl rfl ⟨_, _, _, _, _, _, _, _, _, _, _, _, _, rfl, rfl, rfl, rfl⟩ (c2.sup 3 (d := u_BadRun) rfl).1 (c2.sup 3 (d := u_BadRun) rfl).2
  have x19 : ExcF P K mg "TooMany" "most" (He.ga K "TooMany") := Oh.supB_ok (d := u_TooMany) (c.fact 25 (f := Oh.supB "TooMany" "most") rfl) (He.glo_ok X G (c.fact 24 (f := Oh.fo (.glo "TooMany")) rfl)) (He.free_ok X G (c.fact 16 (f := Oh.fo (.free "super")) rfl)) hPt hPf (.inr (.inr (.inr (.inl rfl)))) rfl rfl ⟨_, _, _, _, _, _, _, _, _, _, _, _, _, rfl, rfl, rfl, rfl⟩ (c2.sup 4 (d := u_TooMany) rfl).1 (c2.sup 4 (d := u_TooMany) rfl).2
  have x20 : ExcF P K mg "BadLog" "index" (He.ga K "BadLog") := Oh.supB_ok (d := u_BadLog) (c.fact 27 (f := Oh.supB "BadLog" "index") rfl) (He.glo_ok X G (c.fact 26 (f := Oh.fo (.glo "BadLog")) rfl)) (He.free_ok X G (c.fact 16 (f := Oh.fo (.free "super")) rfl)) hPt hPf (.inr (.inr (.inl rfl))) rfl rfl ⟨_, _, _, _, _, _, _, _, _, _, _, _, _, rfl, rfl, rfl, rfl⟩ (c2.sup 5 (d := u_BadLog) rfl).1 (c2.sup 5 (d := u_BadLog) rfl).2
  have x21 : ExcF P K mg "BadText" "line" (He.ga K "BadText") := Oh.supB_ok (d := u_BadText) (c.fact 29 (f := Oh.supB "BadText" "line") rfl) (He.glo_ok X G (c.fact 28 (f := Oh.fo (.glo "BadText")) rfl)) (He.free_ok X G (c.fact 16 (f := Oh.fo (.free "super")) rfl)) hPt hPf (.inr (.inr (.inr (.inr rfl)))) rfl rfl ⟨_, _, _, _, _, _, _, _, _, _, _, _, _, rfl, rfl, rfl, rfl⟩ (c2.sup 6 (d := u_BadText) rfl).1 (c2.sup 6 (d := u_BadText) rfl).2
  have x22 : ExcF P K mg "NoName" "name" (He.ga K "NoName") := Oh.supB_ok (d := u_NoName) (c.fact 31 (f := Oh.supB "NoName" "name") rfl) (He.glo_ok X G (c.fact 30 (f := Oh.fo (.glo "NoName")) rfl)) (He.free_ok X G (c.fact 16 (f := Oh.fo (.free "super")) rfl)) hPt hPf (.inr (.inl rfl)) rfl rfl ⟨_, _, _, _, _, _, _, _, _, _, _, _, _, rfl, rfl, rfl, rfl⟩ (c2.sup 7 (d := u_NoName) rfl).1 (c2.sup 7 (d := u_NoName) rfl).2
  have x23 : Exc0 K mg "BadLot" (He.ga K "BadLot") := exc0F_ok (He.glo_ok X G (c.fact 32 (f := Oh.fo (.glo "BadLot")) rfl)) (c.fact 33 (f := exc0F "BadLot") rfl)
  have x24 : Exc0 K mg "BadWish" (He.ga K "BadWish") := exc0F_ok (He.glo_ok X G (c.fact 34 (f := Oh.fo (.glo "BadWish")) rfl)) (c.fact 35 (f := exc0F "BadWish") rfl)
  have x25 : Exc0 K mg "Unsuited" (He.ga K "Unsuited") := exc0F_ok (He.glo_ok X G (c.fact 36 (f := Oh.fo (.glo "Unsuited")) rfl)) (c.fact 37 (f := exc0F "Unsuited") rfl)
  have x26 : Exc0 K mg "BadNumber" (He.ga K "BadNumber") := exc0F_ok (He.glo_ok X G (c.fact 38 (f := Oh.fo (.glo "BadNumber")) rfl)) (c.fact 39 (f := exc0F "BadNumber") rfl)
  have x27 : Exc0 K mg "NoChance" (He.ga K "NoChance") := exc0F_ok (He.glo_ok X G (c.fact 40 (f := Oh.fo (.glo "NoChance")) rfl)) (c.fact 41 (f := exc0F "NoChance") rfl)
  have x28 : Exc0 K mg "BadFraction" (He.ga K "BadFraction") := exc0F_ok (He.glo_ok X G (c.fact 42 (f := Oh.fo (.glo "BadFraction")) rfl)) (c.fact 43 (f := exc0F "BadFraction") rfl)
  have x29 : Exc0 K mg "BadRing" (He.ga K "BadRing") := exc0F_ok (He.glo_ok X G (c.fact 44 (f := Oh.fo (.glo "BadRing")) rfl)) (c.fact 45 (f := exc0F "BadRing") rfl)
  have x30 : Exc0 K mg "BadLooks" (He.ga K "BadLooks") := exc0F_ok (He.glo_ok X G (c.fact 46 (f := Oh.fo (.glo "BadLooks")) rfl)) (c.fact 47 (f := exc0F "BadLooks") rfl)
  have x31 : Exc0 K mg "BadKnowledge" (He.ga K "BadKnowledge") := exc0F_ok (He.glo_ok X G (c.fact 48 (f := Oh.fo (.glo "BadKnowledge")) rfl)) (c.fact 49 (f := exc0F "BadKnowledge") rfl)
  have x32 : Exc0 K mg "BadLook" (He.ga K "BadLook") := exc0F_ok (He.glo_ok X G (c.fact 50 (f := Oh.fo (.glo "BadLook")) rfl)) (c.fact 51 (f := exc0F "BadLook") rfl)
  have x33 : Exc0 K mg "BadHand" (He.ga K "BadHand") := exc0F_ok (He.glo_ok X G (c.fact 52 (f := Oh.fo (.glo "BadHand")) rfl)) (c.fact 53 (f := exc0F "BadHand") rfl)
  have x34 : Exc0 K mg "NoRun" (He.ga K "NoRun") := exc0F_ok (He.glo_ok X G (c.fact 54 (f := Oh.fo (.glo "NoRun")) rfl)) (c.fact 55 (f := exc0F "NoRun") rfl)
  have x35 : Exc0 K mg "BadProgram" (He.ga K "BadProgram") := exc0F_ok (He.glo_ok X G (c.fact 56 (f := Oh.fo (.glo "BadProgram")) rfl)) (c.fact 57 (f := exc0F "BadProgram") rfl)
  have x36 : Exc0 K mg "BadPrograms" (He.ga K "BadPrograms") := exc0F_ok (He.glo_ok X G (c.fact 58 (f := Oh.fo (.glo "BadPrograms")) rfl)) (c.fact 59 (f := exc0F "BadPrograms") rfl)
  have x37 : Exc0 K mg "TooLarge" (He.ga K "TooLarge") := exc0F_ok (He.glo_ok X G (c.fact 60 (f := Oh.fo (.glo "TooLarge")) rfl)) (c.fact 61 (f := exc0F "TooLarge") rfl)
  have x38 : Exc0 K mg "Ringed" (He.ga K "Ringed") := exc0F_ok (He.glo_ok X G (c.fact 62 (f := Oh.fo (.glo "Ringed")) rfl)) (c.fact 63 (f := exc0F "Ringed") rfl)
  have x39 : Exc0 K mg "BadBook" (He.ga K "BadBook") := exc0F_ok (He.glo_ok X G (c.fact 64 (f := Oh.fo (.glo "BadBook")) rfl)) (c.fact 65 (f := exc0F "BadBook") rfl)
  have x40 : Exc0 K mg "BadPrices" (He.ga K "BadPrices") := exc0F_ok (He.glo_ok X G (c.fact 66 (f := Oh.fo (.glo "BadPrices")) rfl)) (c.fact 67 (f := exc0F "BadPrices") rfl)
  have x41 : Exc0 K mg "BadFalls" (He.ga K "BadFalls") := exc0F_ok (He.glo_ok X G (c.fact 68 (f := Oh.fo (.glo "BadFalls")) rfl)) (c.fact 69 (f := exc0F "BadFalls") rfl)
  have x42 : Exc0 K mg "NoEnd" (He.ga K "NoEnd") := exc0F_ok (He.glo_ok X G (c.fact 70 (f := Oh.fo (.glo "NoEnd")) rfl)) (c.fact 71 (f := exc0F "NoEnd") rfl)
  have x43 : Exc0 K mg "LastStep" (He.ga K "LastStep") := exc0F_ok (He.glo_ok X G (c.fact 72 (f := Oh.fo (.glo "LastStep")) rfl)) (c.fact 73 (f := exc0F "LastStep") rfl)
  have x44 : Exc0 K mg "NoHand" (He.ga K "NoHand") := exc0F_ok (He.glo_ok X G (c.fact 74 (f := Oh.fo (.glo "NoHand")) rfl)) (c.fact 75 (f := exc0F "NoHand") rfl)
  have x45 : Exc0 K mg "BadName" (He.ga K "BadName") := exc0F_ok (He.glo_ok X G (c.fact 76 (f := Oh.fo (.glo "BadName")) rfl)) (c.fact 77 (f := exc0F "BadName") rfl)
  have x46 : Exc0 K mg "BadOrder" (He.ga K "BadOrder") := exc0F_ok (He.glo_ok X G (c.fact 78 (f := Oh.fo (.glo "BadOrder")) rfl)) (c.fact 79 (f := exc0F "BadOrder") rfl)
  have x47 : Exc0 K mg "NotNow" (He.ga K "NotNow") := exc0F_ok (He.glo_ok X G (c.fact 80 (f := Oh.fo (.glo "NotNow")) rfl)) (c.fact 81 (f := exc0F "NotNow") rfl)
  have x48 : Exc0 K mg "NoLine" (He.ga K "NoLine") := exc0F_ok (He.glo_ok X G (c.fact 82 (f := Oh.fo (.glo "NoLine")) rfl)) (c.fact 83 (f := exc0F "NoLine") rfl)
  have x49 : Exc0 K mg "NoBench" (He.ga K "NoBench") := exc0F_ok (He.glo_ok X G (c.fact 84 (f := Oh.fo (.glo "NoBench")) rfl)) (c.fact 85 (f := exc0F "NoBench") rfl)
  have x50 : Exc0 K mg "NothingDone" (He.ga K "NothingDone") := exc0F_ok (He.glo_ok X G (c.fact 86 (f := Oh.fo (.glo "NothingDone")) rfl)) (c.fact 87 (f := exc0F "NothingDone") rfl)
  have x51 : Cal P w K mg base 2 "_law_made" ["_law_k", "_law_thing_here"] (spMade [(He.ga K "BadWork"), (He.ga K "NoStand"), (He.ga K "NoStep"), (He.ga K "BadRun"), (He.ga K "TooMany"), (He.ga K "BadLog"), (He.ga K "BadText"), (He.ga K "NoName"), (He.ga K "BadLot"), (He.ga K "BadWish"), (He.ga K "Unsuited"), (He.ga K "BadNumber"), (He.ga K "NoChance"), (He.ga K "BadFraction"), (He.ga K "BadRing"), (He.ga K "BadLooks"), (He.ga K "BadKnowledge"), (He.ga K "BadLook"), (He.ga K "BadHand"), (He.ga K "NoRun"), (He.ga K "BadProgram"), (He.ga K "BadPrograms"), (He.ga K "TooLarge"), (He.ga K "Ringed"), (He.ga K "BadBook"), (He.ga K "BadPrices"), (He.ga K "BadFalls"), (He.ga K "NoEnd"), (He.ga K "LastStep"), (He.ga K "NoHand"), (He.ga K "BadName"), (He.ga K "BadOrder"), (He.ga K "NotNow"), (He.ga K "NoLine"), (He.ga K "NoBench"), (He.ga K "NothingDone")]) := ⟨_, _, ok_l_made F_l_made x15 x16 x17 x18 x19 x20 x21 x22 x23 x24 x25 x26 x27 x28 x29 x30 x31 x32 x33 x34 x35 x36 x37 x38 x39 x40 x41 x42 x43 x44 x45 x46 x47 x48 x49 x50, He.glo_ok X G (c.fact 88 (f := Oh.fo (.glo "_law_made")) rfl), F_l_made.kp, bd_l_made F_l_made⟩
  obtain ⟨_, F_l_flags⟩ := c.def_ 6 (d := d_l_flags) rfl
  have x52 : mg "BadWork" = some (.ref (He.ga K "BadWork")) := He.glo_ok X G (c.fact 15 (f := Oh.fo (.glo "BadWork")) rfl)
  have x53 : mg "NoStand" = some (.ref (He.ga K "NoStand")) := He.glo_ok X G (c.fact 18 (f := Oh.fo (.glo "NoStand")) rfl)
  have x54 : mg "NoStep" = some (.ref (He.ga K "NoStep")) := He.glo_ok X G (c.fact 20 (f := Oh.fo (.glo "NoStep")) rfl)
  have x55 : mg "BadRun" = some (.ref (He.ga K "BadRun")) := He.glo_ok X G (c.fact 22 (f := Oh.fo (.glo "BadRun")) rfl)
  have x56 : mg "TooMany" = some (.ref (He.ga K "TooMany")) := He.glo_ok X G (c.fact 24 (f := Oh.fo (.glo "TooMany")) rfl)
  have x57 : mg "BadLog" = some (.ref (He.ga K "BadLog")) := He.glo_ok X G (c.fact 26 (f := Oh.fo (.glo "BadLog")) rfl)
  have x58 : mg "BadText" = some (.ref (He.ga K "BadText")) := He.glo_ok X G (c.fact 28 (f := Oh.fo (.glo "BadText")) rfl)
  have x59 : mg "NoName" = some (.ref (He.ga K "NoName")) := He.glo_ok X G (c.fact 30 (f := Oh.fo (.glo "NoName")) rfl)
  have x60 : mg "BadLot" = some (.ref (He.ga K "BadLot")) := He.glo_ok X G (c.fact 32 (f := Oh.fo (.glo "BadLot")) rfl)
  have x61 : mg "BadWish" = some (.ref (He.ga K "BadWish")) := He.glo_ok X G (c.fact 34 (f := Oh.fo (.glo "BadWish")) rfl)
  have x62 : mg "Unsuited" = some (.ref (He.ga K "Unsuited")) := He.glo_ok X G (c.fact 36 (f := Oh.fo (.glo "Unsuited")) rfl)
  have x63 : mg "BadNumber" = some (.ref (He.ga K "BadNumber")) := He.glo_ok X G (c.fact 38 (f := Oh.fo (.glo "BadNumber")) rfl)
  have x64 : mg "NoChance" = some (.ref (He.ga K "NoChance")) := He.glo_ok X G (c.fact 40 (f := Oh.fo (.glo "NoChance")) rfl)
  have x65 : mg "BadFraction" = some (.ref (He.ga K "BadFraction")) := He.glo_ok X G (c.fact 42 (f := Oh.fo (.glo "BadFraction")) rfl)
  have x66 : mg "BadRing" = some (.ref (He.ga K "BadRing")) := He.glo_ok X G (c.fact 44 (f := Oh.fo (.glo "BadRing")) rfl)
  have x67 : mg "BadLooks" = some (.ref (He.ga K "BadLooks")) := He.glo_ok X G (c.fact 46 (f := Oh.fo (.glo "BadLooks")) rfl)
  have x68 : mg "BadKnowledge" = some (.ref (He.ga K "BadKnowledge")) := He.glo_ok X G (c.fact 48 (f := Oh.fo (.glo "BadKnowledge")) rfl)
  have x69 : mg "BadLook" = some (.ref (He.ga K "BadLook")) := He.glo_ok X G (c.fact 50 (f := Oh.fo (.glo "BadLook")) rfl)
  have x70 : mg "BadHand" = some (.ref (He.ga K "BadHand")) := He.glo_ok X G (c.fact 52 (f := Oh.fo (.glo "BadHand")) rfl)
  have x71 : mg "NoRun" = some (.ref (He.ga K "NoRun")) := He.glo_ok X G (c.fact 54 (f := Oh.fo (.glo "NoRun")) rfl)
  have x72 : mg "BadProgram" = some (.ref (He.ga K "BadProgram")) := He.glo_ok X G (c.fact 56 (f := Oh.fo (.glo "BadProgram")) rfl)
  have x73 : mg "BadPrograms" = some (.ref (He.ga K "BadPrograms")) := He.glo_ok X G (c.fact 58 (f := Oh.fo (.glo "BadPrograms")) rfl)
  have x74 : mg "TooLarge" = some (.ref (He.ga K "TooLarge")) := He.glo_ok X G (c.fact 60 (f := Oh.fo (.glo "TooLarge")) rfl)
  have x75 : mg "Ringed" = some (.ref (He.ga K "Ringed")) := He.glo_ok X G (c.fact 62 (f := Oh.fo (.glo "Ringed")) rfl)
  have x76 : mg "BadBook" = some (.ref (He.ga K "BadBook")) := He.glo_ok X G (c.fact 64 (f := Oh.fo (.glo "BadBook")) rfl)
  have x77 : mg "BadPrices" = some (.ref (He.ga K "BadPrices")) := He.glo_ok X G (c.fact 66 (f := Oh.fo (.glo "BadPrices")) rfl)
  have x78 : mg "BadFalls" = some (.ref (He.ga K "BadFalls")) := He.glo_ok X G (c.fact 68 (f := Oh.fo (.glo "BadFalls")) rfl)
  have x79 : mg "NoEnd" = some (.ref (He.ga K "NoEnd")) := He.glo_ok X G (c.fact 70 (f := Oh.fo (.glo "NoEnd")) rfl)
  have x80 : mg "LastStep" = some (.ref (He.ga K "LastStep")) := He.glo_ok X G (c.fact 72 (f := Oh.fo (.glo "LastStep")) rfl)
  have x81 : mg "NoHand" = some (.ref (He.ga K "NoHand")) := He.glo_ok X G (c.fact 74 (f := Oh.fo (.glo "NoHand")) rfl)
  have x82 : mg "BadName" = some (.ref (He.ga K "BadName")) := He.glo_ok X G (c.fact 76 (f := Oh.fo (.glo "BadName")) rfl)
  have x83 : mg "BadOrder" = some (.ref (He.ga K "BadOrder")) := He.glo_ok X G (c.fact 78 (f := Oh.fo (.glo "BadOrder")) rfl)
  have x84 : mg "NotNow" = some (.ref (He.ga K "NotNow")) := He.glo_ok X G (c.fact 80 (f := Oh.fo (.glo "NotNow")) rfl)
  have x85 : mg "NoLine" = some (.ref (He.ga K "NoLine")) := He.glo_ok X G (c.fact 82 (f := Oh.fo (.glo "NoLine")) rfl)
  have x86 : mg "NoBench" = some (.ref (He.ga K "NoBench")) := He.glo_ok X G (c.fact 84 (f := Oh.fo (.glo "NoBench")) rfl)
  have x87 : mg "NothingDone" = some (.ref (He.ga K "NothingDone")) := He.glo_ok X G (c.fact 86 (f := Oh.fo (.glo "NothingDone")) rfl)
  have x88 : KitAll K [(He.ga K "BadWork"), (He.ga K "NoStand"), (He.ga K "NoStep"), (He.ga K "BadRun"), (He.ga K "TooMany"), (He.ga K "BadLog"), (He.ga K "BadText"), (He.ga K "NoName"), (He.ga K "BadLot"), (He.ga K "BadWish"), (He.ga K "Unsuited"), (He.ga K "BadNumber"), (He.ga K "NoChance"), (He.ga K "BadFraction"), (He.ga K "BadRing"), (He.ga K "BadLooks"), (He.ga K "BadKnowledge"), (He.ga K "BadLook"), (He.ga K "BadHand"), (He.ga K "NoRun"), (He.ga K "BadProgram"), (He.ga K "BadPrograms"), (He.ga K "TooLarge"), (He.ga K "Ringed"), (He.ga K "BadBook"), (He.ga K "BadPrices"), (He.ga K "BadFalls"), (He.ga K "NoEnd"), (He.ga K "LastStep"), (He.ga K "NoHand"), (He.ga K "BadName"), (He.ga K "BadOrder"), (He.ga K "NotNow"), (He.ga K "NoLine"), (He.ga K "NoBench"), (He.ga K "NothingDone")] := kitAllF_ok (c.fact 89 (f := kitAllF ("BadWork" :: "NoStand" :: "NoStep" :: "BadRun" :: "TooMany" :: "BadLog" :: "BadText" :: "NoName" :: "BadLot" :: "BadWish" :: "Unsuited" :: "BadNumber" :: "NoChance" :: "BadFraction" :: "BadRing" :: "BadLooks" :: "BadKnowledge" :: "BadLook" :: "BadHand" :: "NoRun" :: "BadProgram" :: "BadPrograms" :: "TooLarge" :: "Ringed" :: "BadBook" :: "BadPrices" :: "BadFalls" :: "NoEnd" :: "LastStep" :: "NoHand" :: "BadName" :: "BadOrder" :: "NotNow" :: "NoLine" :: "NoBench" :: "NothingDone" :: [] : List Str)) rfl)
  have x89 : Cal P w K mg base 2 "_law_flags" ["_law_e"] (spFlags K [(He.ga K "BadWork"), (He.ga K "NoStand"), (He.ga K "NoStep"), (He.ga K "BadRun"), (He.ga K "TooMany"), (He.ga K "BadLog"), (He.ga K "BadText"), (He.ga K "NoName"), (He.ga K "BadLot"), (He.ga K "BadWish"), (He.ga K "Unsuited"), (He.ga K "BadNumber"), (He.ga K "NoChance"), (He.ga K "BadFraction"), (He.ga K "BadRing"), (He.ga K "BadLooks"), (He.ga K "BadKnowledge"), (He.ga K "BadLook"), (He.ga K "BadHand"), (He.ga K "NoRun"), (He.ga K "BadProgram"), (He.ga K "BadPrograms"), (He.ga K "TooLarge"), (He.ga K "Ringed"), (He.ga K "BadBook"), (He.ga K "BadPrices"), (He.ga K "BadFalls"), (He.ga K "NoEnd"), (He.ga K "LastStep"), (He.ga K "NoHand"), (He.ga K "BadName"), (He.ga K "BadOrder"), (He.ga K "NotNow"), (He.ga K "NoLine"), (He.ga K "NoBench"), (He.ga K "NothingDone")]) := ⟨_, _, ok_l_flags F_l_flags x2 x52 x53 x54 x55 x56 x57 x58 x59 x60 x61 x62 x63 x64 x65 x66 x67 x68 x69 x70 x71 x72 x73 x74 x75 x76 x77 x78 x79 x80 x81 x82 x83 x84 x85 x86 x87 x88, He.glo_ok X G (c.fact 90 (f := Oh.fo (.glo "_law_flags")) rfl), F_l_flags.kp, bd_l_flags F_l_flags⟩
  obtain ⟨_, F_l_kept⟩ := c.def_ 7 (d := d_l_kept) rfl
  have x90 : ExcG K (He.ga K "BadWork") "part" := Oh.supB_g (c.fact 17 (f := Oh.supB "BadWork" "part") rfl)
  have x91 : ExcG K (He.ga K "NoStand") "name" := Oh.supB_g (c.fact 19 (f := Oh.supB "NoStand" "name") rfl)
  have x92 : ExcG K (He.ga K "NoStep") "name" := Oh.supB_g (c.fact 21 (f := Oh.supB "NoStep" "name") rfl)
  have x93 : ExcG K (He.ga K "BadRun") "index" := Oh.supB_g (c.fact 23 (f := Oh.supB "BadRun" "index") rfl)
  have x94 : ExcG K (He.ga K "TooMany") "most" := Oh.supB_g (c.fact 25 (f := Oh.supB "TooMany" "most") rfl)
  have x95 : ExcG K (He.ga K "BadLog") "index" := Oh.supB_g (c.fact 27 (f := Oh.supB "BadLog" "index") rfl)
  have x96 : ExcG K (He.ga K "BadText") "line" := Oh.supB_g (c.fact 29 (f := Oh.supB "BadText" "line") rfl)
  have x97 : ExcG K (He.ga K "NoName") "name" := Oh.supB_g (c.fact 31 (f := Oh.supB "NoName" "name") rfl)
  have x98 : Cal P w K mg base 2 "_law_kept" ["_law_e", "_law_k"] (spKept [(He.ga K "BadWork"), (He.ga K "NoStand"), (He.ga K "NoStep"), (He.ga K "BadRun"), (He.ga K "TooMany"), (He.ga K "BadLog"), (He.ga K "BadText"), (He.ga K "NoName"), (He.ga K "BadLot"), (He.ga K "BadWish"), (He.ga K "Unsuited"), (He.ga K "BadNumber"), (He.ga K "NoChance"), (He.ga K "BadFraction"), (He.ga K "BadRing"), (He.ga K "BadLooks"), (He.ga K "BadKnowledge"), (He.ga K "BadLook"), (He.ga K "BadHand"), (He.ga K "NoRun"), (He.ga K "BadProgram"), (He.ga K "BadPrograms"), (He.ga K "TooLarge"), (He.ga K "Ringed"), (He.ga K "BadBook"), (He.ga K "BadPrices"), (He.ga K "BadFalls"), (He.ga K "NoEnd"), (He.ga K "LastStep"), (He.ga K "NoHand"), (He.ga K "BadName"), (He.ga K "BadOrder"), (He.ga K "NotNow"), (He.ga K "NoLine"), (He.ga K "NoBench"), (He.ga K "NothingDone")]) := ⟨_, _, ok_l_kept F_l_kept x90 x91 x92 x93 x94 x95 x96 x97, He.glo_ok X G (c.fact 91 (f := Oh.fo (.glo "_law_kept")) rfl), F_l_kept.kp, bd_l_kept F_l_kept⟩
  obtain ⟨_, F_l_raised⟩ := c.def_ 8 (d := d_l_raised) rfl
  have x99 : PySem.W.exmOne K (.ref (He.ga K "BadWork")) (.ref (He.ga K "OwnError")) = some true := exmF_ok (c.fact 92 (f := exmF "BadWork" "OwnError" true) rfl)
  have x100 : PySem.W.exmOne K (.ref (He.ga K "NoStand")) (.ref (He.ga K "OwnError")) = some true := exmF_ok (c.fact 93 (f := exmF "NoStand" "OwnError" true) rfl)
  have x101 : PySem.W.exmOne K (.ref (He.ga K "NoStep")) (.ref (He.ga K "OwnError")) = some true := exmF_ok (c.fact 94 (f := exmF "NoStep" "OwnError" true) rfl)
  have x102 : PySem.W.exmOne K (.ref (He.ga K "BadRun")) (.ref (He.ga K "OwnError")) = some true := exmF_ok (c.fact 95 (f := exmF "BadRun" "OwnError" true) rfl)
  have x103 : PySem.W.exmOne K (.ref (He.ga K "TooMany")) (.ref (He.ga K "OwnError")) = some true := exmF_ok (c.fact 96 (f := exmF "TooMany" "OwnError" true) rfl)
  have x104 : PySem.W.exmOne K (.ref (He.ga K "BadLog")) (.ref (He.ga K "OwnError")) = some true := exmF_ok (c.fact 97 (f := exmF "BadLog" "OwnError" true) rfl)
  have x105 : PySem.W.exmOne K (.ref (He.ga K "BadText")) (.ref (He.ga K "OwnError")) = some true := exmF_ok (c.fact 98 (f := exmF "BadText" "OwnError" true) rfl)
  have x106 : PySem.W.exmOne K (.ref (He.ga K "NoName")) (.ref (He.ga K "OwnError")) = some true := exmF_ok (c.fact 99 (f := exmF "NoName" "OwnError" true) rfl)
  have x107 : CalW P w K mg base 2 "_law_flags" ["_law_e"] (spFlags K [(He.ga K "BadWork"), (He.ga K "NoStand"), (He.ga K "NoStep"), (He.ga K "BadRun"), (He.ga K "TooMany"), (He.ga K "BadLog"), (He.ga K "BadText"), (He.ga K "NoName"), (He.ga K "BadLot"), (He.ga K "BadWish"), (He.ga K "Unsuited"), (He.ga K "BadNumber"), (He.ga K "NoChance"), (He.ga K "BadFraction"), (He.ga K "BadRing"), (He.ga K "BadLooks"), (He.ga K "BadKnowledge"), (He.ga K "BadLook"), (He.ga K "BadHand"), (He.ga K "NoRun"), (He.ga K "BadProgram"), (He.ga K "BadPrograms"), (He.ga K "TooLarge"), (He.ga K "Ringed"), (He.ga K "BadBook"), (He.ga K "BadPrices"), (He.ga K "BadFalls"), (He.ga K "NoEnd"), (He.ga K "LastStep"), (He.ga K "NoHand"), (He.ga K "BadName"), (He.ga K "BadOrder"), (He.ga K "NotNow"), (He.ga K "NoLine"), (He.ga K "NoBench"), (He.ga K "NothingDone")]) := ⟨_, _, ok_l_flagsW F_l_flags x2 x52 x53 x54 x55 x56 x57 x58 x59 x60 x61 x62 x63 x64 x65 x66 x67 x68 x69 x70 x71 x72 x73 x74 x75 x76 x77 x78 x79 x80 x81 x82 x83 x84 x85 x86 x87 x88, He.glo_ok X G (c.fact 90 (f := Oh.fo (.glo "_law_flags")) rfl), F_l_flags.kp, bd_l_flags F_l_flags⟩
  have x108 : CalW P w K mg base 2 "_law_kept" ["_law_e", "_law_k"] (spKept [(He.ga K "BadWork"), (He.ga K "NoStand"), (He.ga K "NoStep"), (He.ga K "BadRun"), (He.ga K "TooMany"), (He.ga K "BadLog"), (He.ga K "BadText"), (He.ga K "NoName"), (He.ga K "BadLot"), (He.ga K "BadWish"), (He.ga K "Unsuited"), (He.ga K "BadNumber"), (He.ga K "NoChance"), (He.ga K "BadFraction"), (He.ga K "BadRing"), (He.ga K "BadLooks"), (He.ga K "BadKnowledge"), (He.ga K "BadLook"), (He.ga K "BadHand"), (He.ga K "NoRun"), (He.ga K "BadProgram"), (He.ga K "BadPrograms"), (He.ga K "TooLarge"), (He.ga K "Ringed"), (He.ga K "BadBook"), (He.ga K "BadPrices"), (He.ga K "BadFalls"), (He.ga K "NoEnd"), (He.ga K "LastStep"), (He.ga K "NoHand"), (He.ga K "BadName"), (He.ga K "BadOrder"), (He.ga K "NotNow"), (He.ga K "NoLine"), (He.ga K "NoBench"), (He.ga K "NothingDone")]) := ⟨_, _, ok_l_keptW F_l_kept x90 x91 x92 x93 x94 x95 x96 x97, He.glo_ok X G (c.fact 91 (f := Oh.fo (.glo "_law_kept")) rfl), F_l_kept.kp, bd_l_kept F_l_kept⟩
  have x109 : Cal P w K mg base 3 "_law_raised" ["_law_k", "_law_thing_here"] (spRaised [(He.ga K "BadWork"), (He.ga K "NoStand"), (He.ga K "NoStep"), (He.ga K "BadRun"), (He.ga K "TooMany"), (He.ga K "BadLog"), (He.ga K "BadText"), (He.ga K "NoName"), (He.ga K "BadLot"), (He.ga K "BadWish"), (He.ga K "Unsuited"), (He.ga K "BadNumber"), (He.ga K "NoChance"), (He.ga K "BadFraction"), (He.ga K "BadRing"), (He.ga K "BadLooks"), (He.ga K "BadKnowledge"), (He.ga K "BadLook"), (He.ga K "BadHand"), (He.ga K "NoRun"), (He.ga K "BadProgram"), (He.ga K "BadPrograms"), (He.ga K "TooLarge"), (He.ga K "Ringed"), (He.ga K "BadBook"), (He.ga K "BadPrices"), (He.ga K "BadFalls"), (He.ga K "NoEnd"), (He.ga K "LastStep"), (He.ga K "NoHand"), (He.ga K "BadName"), (He.ga K "BadOrder"), (He.ga K "NotNow"), (He.ga K "NoLine"), (He.ga K "NoBench"), (He.ga K "NothingDone")]) := ⟨_, _, ok_l_raised F_l_raised x4 x15 x16 x17 x18 x19 x20 x21 x22 x99 x100 x101 x102 x103 x104 x105 x106 x7 x107 x108, He.glo_ok X G (c.fact 100 (f := Oh.fo (.glo "_law_raised")) rfl), F_l_raised.kp, bd_l_raised F_l_raised⟩
  exact ok_law F_law x1 x2 x3 x4 x5 x6 x7 x11 x12 x13 x14 x51 x89 x98 x109
end Law
open PySem PySem.W PySem.Calls PyProof.Rows
theorem PySem.Challenge.cw_ownslips_k10_errors_holds : PySem.Challenge.rw_ownslips_k10_errors.Holds := by
  w_on; o_law
  refine HandSHeadRun.head_any (r := OpenLaw.row PySem.Challenge.rw_ownslips_k10_errors) (q := view (PySem.W.OpenLaw.row PySem.Challenge.rw_ownslips_k10_errors).prog [47]) (H := Law.hk) (ob := Law.ob) (M := 12000) (loose := Law.loA) (d := HandSHeadRun.topDef (PySem.W.OpenLaw.row PySem.Challenge.rw_ownslips_k10_errors).prog 47) (kwd := []) Law.ob_eq
    (by kernel_rfl) (fun s => by kernel_rfl) Law.run (by kernel_rfl) (by kernel_rfl) (by kernel_rfl) (by rfl) (by first | assumption | decide +kernel) (by decide +kernel) ⟨rfl, rfl, rfl, rfl, rfl, by decide +kernel⟩ ?hw ?hc
  case hw => w_witness2
  case hc =>
    refine L2.walk_ofE (l := PySem.Challenge.rw_ownslips_k10_errors) (n := 63) (k := 4) (x := "_law_script") (CX := L2.CX0) rfl (by decide) (by kernel_rfl) ⟨rfl, by decide, by decide⟩ ?F (fun _ _ _ _ z => z)
    intro w mg fa h Y G hmg0
    obtain ⟨K, KX, c⟩ := Y
    have hmg : mg ("law" : PySem.Str) = some (.ref fa) := by
      have e : (HandSHeadRun.topDef (PySem.W.OpenLaw.row PySem.Challenge.rw_ownslips_k10_errors).prog 47).name = ("law" : PySem.Str) := by kernel_rfl
      rw [← e]
      exact hmg0
    obtain ⟨fd, hb, hF⟩ := Law.facts (P := (PySem.Challenge.rw_ownslips_k10_errors).prog) (w := w) KX G hmg (by kernel_rfl) (by kernel_rfl) c
    exact ⟨K, fd, Law.spLaw K, KX, hb, fun H a ns hl _ hS => ⟨a, ns, rfl, hS, hl, fun _ => rfl⟩, hF⟩
