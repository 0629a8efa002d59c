import PyProof.Rows.All
import Wide.All
import OpenK.AllK
import Wide.FinOn
import HandS.ForMost
import HandS.Defaults
import HandS.Head0
import HandS.Head1
import HandS.Head2
import HandS.HeadEnd
import HandS.HeadHook1
import HandS.HeadHook2
import HandS.Property
import PyProof.Rows.RuleB_pow
import PyProof.Rows.SortShellAny
import HandS.TryOnly
import HandS.Wide
import HandS.Walk
import HandS.IsInst
import HandS.DictComp
import HandS.Style
import HandS.Flow
import HandS.TupAny
import HandS.ListItems
import HandS.Conv
import HandS.OwnEq
import KE.GoesMore
import KE.GoesEnum
import HandS.Iter
import HandS.SortKw
import HandS.More
import HandS.Finally
import KE.KDictSum
import HandS.SortRule
import HandS.SortOrd
import KE.KSortTup
import PyProof.ReprRoads
import HandS.Dict
import HandS.WordsExc
import HandS.ExcIs
import HandS.ExcField
import KE.KExcSuper
import KE.KSuper
import HandS.ExcInit
import HandS.TryMany
import KE.KEqNest
import HandS.DictEq
import HandS.DeepEq
import PySem.Challenge.RW_ownslips_k09_copies
set_option Elab.async false
set_option linter.all false
set_option maxRecDepth 100000
set_option maxHeartbeats 4000000
/-! Own hook: facts are any Bool of the written part, defs stand at any address that the written part tells. -/
namespace Oh
open PySem PySem.Spec PyProof.Rows L2
abbrev Frag := PySem.W.Frag
/-- a def: where it stands and its text -/
structure Dd where
  spot : Frag → Addr
  name : Str
  qual : Str
  st : Stmt
def Dd.fnd (d : Dd) (K : Frag) : He.FnW := (K.lookup (d.spot K)).bind fun o => match o.data with
  | .func fd => some (fd.name, fd.qualname, fd.params, fd.body, fd.scope, fd.globals, fd.closure, fd.builtins)
  | _ => none
def Dd.due (d : Dd) : He.FnW := some (d.name, d.qual, defArgs d.st, .stmts (defBody d.st), defScope d.st, mainGlobals, [], builtinsNs)
def isNon : Value → Bool
  | .none => true
  | _ => false
def Dd.good (d : Dd) (K : Frag) : Bool := match K.lookup (d.spot K) with
  | some o => (match o.data with
    | .func fd => PySem.W.keepIn K (.ref (d.spot K)) && (PySem.W.codeIn K fd.code d.qual && isNon fd.defaults)
    | _ => false)
  | none => false
theorem Dd.fun_ {d : Dd} {K : Frag} (e : d.fnd K = d.due) (g : d.good K = true) : ∃ fd, Fun K d.name d.qual d.st (d.spot K) fd := by
  unfold Dd.fnd at e
  unfold Dd.good at g
  cases q : K.lookup (d.spot K) with
  | none => rw [q] at g; cases g
  | some o =>
    obtain ⟨oc, od, dt, osl⟩ := o
    rw [q] at e g
    cases dt with
    | func fd =>
      obtain ⟨n1, n2, n3, n4, n5, n6, n7, n8, n9, n10, n11, n12, n13, n14, n15⟩ := fd
      have e2 : (some (n1, n2, n3, n4, n5, n6, n7, n15) : He.FnW) = some (d.name, d.qual, defArgs d.st, .stmts (defBody d.st), defScope d.st, mainGlobals, [], builtinsNs) := e
      have g2 : (PySem.W.keepIn K (.ref (d.spot K)) && (PySem.W.codeIn K n13 d.qual && isNon n8)) = true := g
      obtain ⟨g3, g4⟩ := Bool.and_eq_true_iff.mp g2
      obtain ⟨g5, g6⟩ := Bool.and_eq_true_iff.mp g4
      have e8 : n8 = .none := by
        cases n8 with
        | none => rfl
        | _ => cases g6
      simp only [Option.some.injEq, Prod.mk.injEq] at e2
      obtain ⟨h1, h2, h3, h4, h5, h6, h7, h8⟩ := e2
      subst h1 h2 h3 h4 h5 h6 h7 h8 e8
      exact ⟨_, ⟨oc, od, n9, n10, n11, n12, n13, n14, osl, rfl, q, g5⟩, g3⟩
    | _ => cases g
abbrev Ob : Type := Bool × List He.FnW
def see (fa : List (Frag → Bool)) (ds : List Dd) (K : Frag) : Ob := ((fa.all fun f => f K) && ds.all fun d => d.good K, ds.map fun d => d.fnd K)
def want (ds : List Dd) : Ob := (true, ds.map Dd.due)
def Told (fa : List (Frag → Bool)) (ds : List Dd) (K : Frag) : Prop := see fa ds K = want ds
def seeG (n : Nat) (fa : List (Frag → Bool)) (ds : List Dd) (g : Addr → Option Obj) : Ob := see fa ds (He.frG g (sysModules :: He.asD g n))
def hook (n : Nat) (fa : List (Frag → Bool)) (ds : List Dd) : PySem.W.Hook where
  α := Ob
  obs := fun s => seeG n fa ds s.heap.get?
  val := fun _ => want ds
  says := fun _ h => ∃ K : Frag, K.In h ∧ Told fa ds K
  of := fun _ _ e => ⟨_, He.frG_in, e⟩
  keeps := fun _ _ _ ⟨K, hK, c⟩ k => ⟨K, PySem.W.Frag.In.keeps hK k, c⟩
def obT (n : Nat) (fa : List (Frag → Bool)) (ds : List Dd) (s : PySem.W.SharedT) : Ob := seeG n fa ds (HandSHeadRun.getT s)
theorem obT_eq {n : Nat} {fa : List (Frag → Bool)} {ds : List Dd} (s : PySem.W.SharedT) : obT n fa ds s = (hook n fa ds).obs s.abs := by
  have e : HandSHeadRun.getT s = s.abs.heap.get? := funext (HandSHeadRun.getT_eq s)
  show seeG n fa ds (HandSHeadRun.getT s) = seeG n fa ds s.abs.heap.get?
  rw [e]
section
variable {fa : List (Frag → Bool)} {ds : List Dd} {K : Frag}
theorem Told.fact (c : Told fa ds K) (i : Nat) {f : Frag → Bool} (h : fa[i]? = some f) : f K = true := by
  have c1 := congrArg (fun z : Ob => z.1) c
  have c2 := (Bool.and_eq_true_iff.mp (show ((fa.all fun f => f K) && ds.all fun d => d.good K) = true from c1)).1
  exact List.all_eq_true.mp c2 f (List.mem_of_getElem? h)
theorem Told.def_ (c : Told fa ds K) (i : Nat) {d : Dd} (h : ds[i]? = some d) : ∃ fd, Fun K d.name d.qual d.st (d.spot K) fd := by
  have c1 := congrArg (fun z : Ob => z.1) c
  have c2 := (Bool.and_eq_true_iff.mp (show ((fa.all fun f => f K) && ds.all fun d => d.good K) = true from c1)).2
  have e : ds.map (fun d => d.fnd K) = ds.map Dd.due := congrArg (fun z : Ob => z.2) c
  have e2 : (ds.map fun d => d.fnd K)[i]? = (ds.map Dd.due)[i]? := by rw [e]
  rw [List.getElem?_map, List.getElem?_map, h] at e2
  exact Dd.fun_ (Option.some.inj e2) (List.all_eq_true.mp c2 d (List.mem_of_getElem? h))
end
/-! facts -/
def fo (f : He.Fa) : Frag → Bool := fun K => f.ok K
/-- the property's getter -/
def ga2 (K : Frag) (C f : Str) : Addr := match PySem.W.recIn K (He.ma K (He.ga K C) f) "property" with
  | some (.ref g :: _) => g
  | _ => 0
def isRefHd (o : Option (List Value)) (g : Addr) : Bool := match o with
  | some (.ref h :: _) => decide (h = g)
  | _ => false
/-- the class C has the name f as a property -/
def propB (C f : Str) : Frag → Bool := fun K => He.eqO (PySem.W.findIn K (.ref (He.ga K C)) f) (some (some (.ref (He.ma K (He.ga K C) f)))) &&
  (He.eqO (PySem.W.specialIn K (.ref (He.ma K (He.ga K C) f)) "__get__") (some (some (.builtin "property.__get__"))) &&
  (decide (PySem.W.takesIn K (.ref (He.ma K (He.ga K C) f)) = some true) && isRefHd (PySem.W.recIn K (He.ma K (He.ga K C) f) "property") (ga2 K C f)))
theorem propB_ok {C f : Str} {K : Frag} (h : propB C f K = true) : PropOf K (He.ga K C) f (He.ma K (He.ga K C) f) (ga2 K C f) := by
  obtain ⟨h1, h⟩ := Bool.and_eq_true_iff.mp h
  obtain ⟨h2, h⟩ := Bool.and_eq_true_iff.mp h
  obtain ⟨h3, h4⟩ := Bool.and_eq_true_iff.mp h
  refine ⟨He.eqO_ok h1, He.eqO_ok h2, of_decide_eq_true h3, ?_⟩
  unfold isRefHd at h4
  cases q : PySem.W.recIn K (He.ma K (He.ga K C) f) "property" with
  | none => rw [q] at h4; cases h4
  | some l =>
    rw [q] at h4
    cases l with
    | nil => cases h4
    | cons v r =>
      cases v with
      | ref g =>
        have e : g = ga2 K C f := of_decide_eq_true h4
        exact ⟨r, by rw [e]⟩
      | _ => cases h4
/-- how the law's def binds, at every heap -/
theorem bindsA {K : Frag} {x qual : Str} {st : Stmt} {f : Addr} {fd : FuncData} {ps : List Str} (F : Fun K x qual st f fd)
    (h : ∀ (kV doc pm : Value) (an : Option Addr) (cdv ct : Value) (us : List Value), us.length = ps.length → bindArgs (PySem.W.fnOf x qual (defArgs st) (defBody st) (defScope st) .none kV doc pm an cdv ct) ⟨us, []⟩ = pure (ps.zip us))
    (s : Shared) (us : List Value) (hl : us.length = ps.length) : BindsTo s fd ⟨us, []⟩ (ps.zip us) := by
  obtain ⟨_, _, kV, doc, pm, an, cdv, ct, _, e, _⟩ := F.ex
  subst e
  exact BindsTo.of_eq (h kV doc pm an cdv ct us hl)
end Oh

namespace Ox
open PySem PySem.Spec PyProof.Rows L2
def iscB (C : Str) : PySem.W.Frag → Bool := fun K => (He.Fa.cls C).ok K && (He.eqO (PySem.W.findIn K (.ref (He.ga K C)) "__class__") (some (some (.builtin "object.__class__"))) && (He.eqO (PySem.W.specialIn K (.builtin "object.__class__") "__get__") (some (some (.builtin "getset_descriptor.__get__"))) &&
  (decide (PySem.W.takesIn K (.builtin "object.__class__") = some true) && decide (PySem.W.mroIn K (He.ga K C) (.type "object") = some true))))
def kitF (C D : Str) (b : Bool) : PySem.W.Frag → Bool := fun K => decide (PySem.W.kitOne K (.ref (He.ga K C)) (.ref (He.ga K D)) = some b)
abbrev veB : List Value := [.type "ValueError", .type "Exception", .type "BaseException", .type "object"]
def exc0F (x : Str) : PySem.W.Frag → Bool := fun K => PySem.W.excIn K (He.ga K x) veB "ValueError.__new__" && (PySem.W.keepIn K (.ref (He.ga K x)) && (decide (PySem.W.subIn K (.ref (He.ga K x)) (.type "BaseException") = some true) && decide (PySem.W.typeIn K (.ref (He.ga K x)) = some (.type "type"))))
def excCF (x : Str) : PySem.W.Frag → Bool := fun K => xfB K (He.ga K x) && (He.eqO (PySem.W.findIn K (.ref (He.ga K x)) "__class__") (some (some (.builtin "object.__class__"))) && (He.eqO (PySem.W.specialIn K (.builtin "object.__class__") "__get__") (some (some (.builtin "getset_descriptor.__get__"))) &&
  (decide (PySem.W.takesIn K (.builtin "object.__class__") = some true) && decide (PySem.W.mroIn K (He.ga K x) (.type "object") = some true))))
def exmF (C D : Str) (b : Bool) : PySem.W.Frag → Bool := fun K => decide (PySem.W.exmOne K (.ref (He.ga K C)) (.ref (He.ga K D)) = some b)
def kitTF (C : Str) (T : String) (b : Bool) : PySem.W.Frag → Bool := fun K => decide (PySem.W.kitOne K (.ref (He.ga K C)) (.type T) = some b)
end Ox
namespace Law
open PySem PySem.Spec PyProof.Rows L2 Ox
def top (i : Nat) : Stmt := PySem.Challenge.pw_ownslips_k09_copies.main.body.getD i (.Pass ⟨0, 0, 0, 0⟩)
abbrev s__wall : Stmt := top 0
abbrev s_is_integer : Stmt := top 2
abbrev s_is_name : Stmt := top 3
abbrev s_is_pair : Stmt := top 4
abbrev s_is_moves : Stmt := top 12
abbrev s_is_draws : Stmt := top 13
abbrev s_is_stand : Stmt := top 14
abbrev s_are_stands : Stmt := top 15
abbrev s_copied : Stmt := top 16
abbrev s_leads : Stmt := top 17
abbrev s_is_ringless : Stmt := top 18
abbrev s_Work_init : Stmt := inClass (top 19) 0
abbrev s_Work_stands : Stmt := inClass (top 19) 1
abbrev s_Work_eq : Stmt := inClass (top 19) 2
abbrev s_Work_row : Stmt := inClass (top 19) 3
abbrev s_Work_kind : Stmt := inClass (top 19) 4
abbrev s_Work_mover : Stmt := inClass (top 19) 5
abbrev s_Work_steps : Stmt := inClass (top 19) 6
abbrev s_Work_to : Stmt := inClass (top 19) 7
abbrev s_Work_weight : Stmt := inClass (top 19) 8
abbrev s_is_value : Stmt := top 21
abbrev s_are_worths : Stmt := top 22
abbrev s_Wish_init : Stmt := inClass (top 23) 0
abbrev s_Wish_worths : Stmt := inClass (top 23) 1
abbrev s_Wish_eq : Stmt := inClass (top 23) 2
abbrev s_pool : Stmt := top 25
abbrev s_draw : Stmt := top 26
abbrev s_word : Stmt := top 27
abbrev s_words : Stmt := top 28
abbrev s_l_stands : Stmt := top 29
abbrev s_l_stand : Stmt := top 30
abbrev s_l_worths : Stmt := top 31
abbrev s_endless : Stmt := top 32
abbrev s_l_world : Stmt := top 33
abbrev s_l_copy : Stmt := top 34
abbrev s_l_steps : Stmt := top 35
abbrev s_l_mirror : Stmt := top 36
abbrev s_l_turned : Stmt := top 37
abbrev s_l_backwards : Stmt := top 38
abbrev s_l_other : Stmt := top 39
abbrev s_l_as_draws : Stmt := top 40
abbrev s_l_other_wishes : Stmt := top 41
abbrev s_l_spoil_told : Stmt := top 42
abbrev s_law : Stmt := top 43
end Law
/-! the head -/
namespace Law
open PySem PySem.Spec PyProof.Rows L2 Ox
def d_law : Oh.Dd := ⟨fun K => He.ga K "law", "law", "law", s_law⟩
def d_pool : Oh.Dd := ⟨fun K => He.ga K "_law_pool", "_law_pool", "_law_pool", s_pool⟩
def d_l_world : Oh.Dd := ⟨fun K => He.ga K "_law_world", "_law_world", "_law_world", s_l_world⟩
def d_draw : Oh.Dd := ⟨fun K => He.ga K "_law_draw", "_law_draw", "_law_draw", s_draw⟩
def d_words : Oh.Dd := ⟨fun K => He.ga K "_law_words", "_law_words", "_law_words", s_words⟩
def d_word : Oh.Dd := ⟨fun K => He.ga K "_law_word", "_law_word", "_law_word", s_word⟩
def d_l_stands : Oh.Dd := ⟨fun K => He.ga K "_law_stands", "_law_stands", "_law_stands", s_l_stands⟩
def d_l_stand : Oh.Dd := ⟨fun K => He.ga K "_law_stand", "_law_stand", "_law_stand", s_l_stand⟩
def d_l_worths : Oh.Dd := ⟨fun K => He.ga K "_law_worths", "_law_worths", "_law_worths", s_l_worths⟩
def d_endless : Oh.Dd := ⟨fun K => He.ga K "_law_endless", "_law_endless", "_law_endless", s_endless⟩
def d_l_other : Oh.Dd := ⟨fun K => He.ga K "_law_other", "_law_other", "_law_other", s_l_other⟩
def d_l_copy : Oh.Dd := ⟨fun K => He.ga K "_law_copy", "_law_copy", "_law_copy", s_l_copy⟩
def d_l_as_draws : Oh.Dd := ⟨fun K => He.ga K "_law_as_draws", "_law_as_draws", "_law_as_draws", s_l_as_draws⟩
def d_Work_init : Oh.Dd := ⟨fun K => He.ma K (He.ga K "Work") "__init__", "__init__", "Work.__init__", s_Work_init⟩
def d_is_integer : Oh.Dd := ⟨fun K => He.ga K "is_integer", "is_integer", "is_integer", s_is_integer⟩
def d_is_name : Oh.Dd := ⟨fun K => He.ga K "is_name", "is_name", "is_name", s_is_name⟩
def d_are_stands : Oh.Dd := ⟨fun K => He.ga K "are_stands", "are_stands", "are_stands", s_are_stands⟩
def d_is_stand : Oh.Dd := ⟨fun K => He.ga K "is_stand", "is_stand", "is_stand", s_is_stand⟩
def d_is_moves : Oh.Dd := ⟨fun K => He.ga K "is_moves", "is_moves", "is_moves", s_is_moves⟩
def d_is_draws : Oh.Dd := ⟨fun K => He.ga K "is_draws", "is_draws", "is_draws", s_is_draws⟩
def d_is_pair : Oh.Dd := ⟨fun K => He.ga K "is_pair", "is_pair", "is_pair", s_is_pair⟩
def d_copied : Oh.Dd := ⟨fun K => He.ga K "copied", "copied", "copied", s_copied⟩
def d_is_ringless : Oh.Dd := ⟨fun K => He.ga K "is_ringless", "is_ringless", "is_ringless", s_is_ringless⟩
def d_leads : Oh.Dd := ⟨fun K => He.ga K "leads", "leads", "leads", s_leads⟩
def d_l_spoil_told : Oh.Dd := ⟨fun K => He.ga K "_law_spoil_told", "_law_spoil_told", "_law_spoil_told", s_l_spoil_told⟩
def d_Work_stands : Oh.Dd := ⟨fun K => Oh.ga2 K "Work" "stands", "stands", "Work.stands", s_Work_stands⟩
def d_Work_steps : Oh.Dd := ⟨fun K => He.ma K (He.ga K "Work") "steps", "steps", "Work.steps", s_Work_steps⟩
def d_Work_row : Oh.Dd := ⟨fun K => He.ma K (He.ga K "Work") "row", "row", "Work.row", s_Work_row⟩
def d_l_steps : Oh.Dd := ⟨fun K => He.ga K "_law_steps", "_law_steps", "_law_steps", s_l_steps⟩
def d_l_turned : Oh.Dd := ⟨fun K => He.ga K "_law_turned", "_law_turned", "_law_turned", s_l_turned⟩
def d_Work_eq : Oh.Dd := ⟨fun K => He.ma K (He.ga K "Work") "__eq__", "__eq__", "Work.__eq__", s_Work_eq⟩
def d_Wish_init : Oh.Dd := ⟨fun K => He.ma K (He.ga K "Wish") "__init__", "__init__", "Wish.__init__", s_Wish_init⟩
def d_are_worths : Oh.Dd := ⟨fun K => He.ga K "are_worths", "are_worths", "are_worths", s_are_worths⟩
def d_is_value : Oh.Dd := ⟨fun K => He.ga K "is_value", "is_value", "is_value", s_is_value⟩
def d_Wish_worths : Oh.Dd := ⟨fun K => Oh.ga2 K "Wish" "worths", "worths", "Wish.worths", s_Wish_worths⟩
def d_Wish_eq : Oh.Dd := ⟨fun K => He.ma K (He.ga K "Wish") "__eq__", "__eq__", "Wish.__eq__", s_Wish_eq⟩
def d_l_backwards : Oh.Dd := ⟨fun K => He.ga K "_law_backwards", "_law_backwards", "_law_backwards", s_l_backwards⟩
def d_l_mirror : Oh.Dd := ⟨fun K => He.ga K "_law_mirror", "_law_mirror", "_law_mirror", s_l_mirror⟩
def d_l_other_wishes : Oh.Dd := ⟨fun K => He.ga K "_law_other_wishes", "_law_other_wishes", "_law_other_wishes", s_l_other_wishes⟩
abbrev ds0 : List Oh.Dd := [d_law, d_pool, d_l_world, d_draw, d_words, d_word, d_l_stands, d_l_stand, d_l_worths, d_endless, d_l_other, d_l_copy, d_l_as_draws, d_Work_init, d_is_integer, d_is_name, d_are_stands, d_is_stand, d_is_moves, d_is_draws, d_is_pair, d_copied, d_is_ringless, d_leads, d_l_spoil_told, d_Work_stands, d_Work_steps, d_Work_row, d_l_steps, d_l_turned]
abbrev ds1 : List Oh.Dd := [d_Work_eq, d_Wish_init, d_are_worths, d_is_value, d_Wish_worths, d_Wish_eq, d_l_backwards, d_l_mirror, d_l_other_wishes]
abbrev dsA : List Oh.Dd := ds0 ++ ds1
abbrev fa0 : List (Oh.Frag → Bool) := [Oh.fo (.glo "law"), Oh.fo (.cls "Work"), Oh.fo (.cls "Wish"), Oh.fo (.noat "Work" "start"), Oh.fo (.noat "Work" "names"), Oh.fo (.free "sorted"), Oh.fo (.free "tuple"), Oh.fo (.free "dict"), Oh.fo (.free "len"), Oh.fo (.free "int"), Oh.fo (.free "min"), Oh.fo (.free "range"), Oh.fo (.glo "_law_pool"), Oh.fo (.glo "_law_draw"), Oh.fo (.free "str"), Oh.fo (.glo "_law_word"), Oh.fo (.glo "_law_words"), Oh.fo (.glo "_law_stand"), Oh.fo (.glo "_law_stands"), Oh.fo (.glo "_law_worths"), Oh.fo (.free "max"), Oh.fo (.glo "_law_endless"), Oh.fo (.glo "_law_world"), Oh.fo (.free "list"), Oh.fo (.glo "_law_copy"), Oh.fo (.glo "_law_as_draws"), Oh.fo (.glo "_law_other"), Oh.fo (.noat "Work" "hands"), Oh.fo (.noat "Work" "table"), Oh.fo (.noat "Work" "ends")]
abbrev fa1 : List (Oh.Frag → Bool) := [Oh.fo (.noat "Work" "ringless"), Oh.fo (.free "bool"), Oh.fo (.free "isinstance"), Oh.fo (.glo "is_integer"), Oh.fo (.glo "is_name"), Oh.fo (.glo "is_moves"), Oh.fo (.glo "is_pair"), Oh.fo (.glo "is_draws"), Oh.fo (.glo "is_stand"), Oh.fo (.glo "are_stands"), Oh.fo (.glo "copied"), Oh.fo (.free "all"), Oh.fo (.glo "leads"), Oh.fo (.glo "is_ringless"), Oh.fo (.mkr "Work"), Oh.fo (.glo "Work"), Oh.fo (.glo "_law_spoil_told"), Oh.propB "Work" "stands", Oh.fo (.meth "Work" "row"), Oh.fo (.meth "Work" "steps"), Oh.fo (.glo "_law_steps"), Oh.fo (.glo "_law_turned"), iscB "Work", kitF "Work" "Work" true, Oh.fo (.meth "Work" "__eq__"), Oh.fo (.noat "Wish" "table"), Oh.fo (.noat "Wish" "endless"), Oh.fo (.noat "Wish" "coming"), Oh.fo (.glo "is_value"), Oh.fo (.glo "are_worths")]
abbrev fa2 : List (Oh.Frag → Bool) := [Oh.fo (.mkr "Wish"), Oh.fo (.glo "Wish"), Oh.propB "Wish" "worths", iscB "Wish", kitF "Wish" "Wish" true, Oh.fo (.meth "Wish" "__eq__"), Oh.fo (.glo "_law_backwards"), Oh.fo (.glo "_law_mirror"), Oh.fo (.glo "_law_other_wishes")]
abbrev faA : List (Oh.Frag → Bool) := fa0 ++ fa1 ++ fa2
abbrev lo0 : List Str := ["_wall", "is_integer", "is_name", "is_pair", "OwnError", "BadWork", "NoStand", "NoStep", "BadWish", "is_moves", "is_draws", "is_stand", "are_stands", "copied", "leads", "is_ringless", "Work", "is_value", "are_worths", "Wish", "_law_pool", "_law_draw", "_law_word", "_law_words", "_law_stands", "_law_stand", "_law_worths", "_law_endless", "_law_world", "_law_copy"]
abbrev lo1 : List Str := ["_law_steps", "_law_mirror", "_law_turned", "_law_backwards", "_law_other", "_law_as_draws", "_law_other_wishes", "_law_spoil_told"]
abbrev loA : List Str := lo0 ++ lo1
abbrev Rw : PySem.W.OpenRow := PySem.W.OpenLaw.row PySem.Challenge.rw_ownslips_k09_copies
abbrev hk : PySem.W.Hook := Oh.hook 8 faA dsA
def ob (s : PySem.W.SharedT) : Oh.Ob := Oh.obT 8 faA dsA s
theorem ob_eq (s : PySem.W.SharedT) : ob s = hk.obs s.abs := Oh.obT_eq s
theorem run (w : World) : HandSHeadRun.RunEq Rw (PySem.W.view Rw.prog [43]) hk ob 6000 loA w := by
  intro os
  kernel_rfl
end Law
namespace Law
open PySem PySem.W PySem.Calls PyProof.Rows
theorem hz1 : opening (PySem.W.OpenLaw.row PySem.Challenge.rw_ownslips_k09_copies).prog = plainProg (PySem.W.OpenLaw.row PySem.Challenge.rw_ownslips_k09_copies).prog.main.scope.names := by kernel_rfl
theorem hz2 : ∀ s, fenceModules? (PySem.W.OpenLaw.row PySem.Challenge.rw_ownslips_k09_copies).prog s = some s := fun s => by kernel_rfl
theorem hz3 : defOf (view (PySem.W.OpenLaw.row PySem.Challenge.rw_ownslips_k09_copies).prog [43]) (PySem.W.OpenLaw.row PySem.Challenge.rw_ownslips_k09_copies).name = some ((HandSHeadRun.topDef (PySem.W.OpenLaw.row PySem.Challenge.rw_ownslips_k09_copies).prog 43), []) := by kernel_rfl
theorem hz4 : (PySem.W.OpenLaw.row PySem.Challenge.rw_ownslips_k09_copies).prog.theDef (PySem.W.OpenLaw.row PySem.Challenge.rw_ownslips_k09_copies).name = some ((HandSHeadRun.topDef (PySem.W.OpenLaw.row PySem.Challenge.rw_ownslips_k09_copies).prog 43).params, (HandSHeadRun.topDef (PySem.W.OpenLaw.row PySem.Challenge.rw_ownslips_k09_copies).prog 43).body, (HandSHeadRun.topDef (PySem.W.OpenLaw.row PySem.Challenge.rw_ownslips_k09_copies).prog 43).scope) := by kernel_rfl
theorem hz5 : kwWritten? (HandSHeadRun.topDef (PySem.W.OpenLaw.row PySem.Challenge.rw_ownslips_k09_copies).prog 43).params.kwonlyargs (HandSHeadRun.topDef (PySem.W.OpenLaw.row PySem.Challenge.rw_ownslips_k09_copies).prog 43).params.kw_defaults = some [] := by kernel_rfl
theorem hz6 : (!(PySem.W.OpenLaw.row PySem.Challenge.rw_ownslips_k09_copies).writes || (PySem.W.OpenLaw.row PySem.Challenge.rw_ownslips_k09_copies).records.isEmpty) = true := by rfl
theorem hz7 : (PySem.W.OpenLaw.row PySem.Challenge.rw_ownslips_k09_copies).wellSaid = true := by decide +kernel
theorem hz8 : (chainsOk (view (PySem.W.OpenLaw.row PySem.Challenge.rw_ownslips_k09_copies).prog [43]) && opensWell (PySem.W.OpenLaw.row PySem.Challenge.rw_ownslips_k09_copies).prog && (frees (PySem.W.OpenLaw.row PySem.Challenge.rw_ownslips_k09_copies).toRowW && (PySem.W.OpenLaw.row PySem.Challenge.rw_ownslips_k09_copies).within.isEmpty)) = true := by decide +kernel
theorem hz9 : (PySem.W.OpenLaw.row PySem.Challenge.rw_ownslips_k09_copies).prog.bare := ⟨rfl, rfl, rfl, rfl, rfl, by decide +kernel⟩
theorem hz10 : (PySem.W.OpenLaw.row PySem.Challenge.rw_ownslips_k09_copies).toRowW.promised := by w_witness2
theorem hz0 (h : (PySem.W.OpenLaw.row PySem.Challenge.rw_ownslips_k09_copies).Holds) : PySem.Challenge.rw_ownslips_k09_copies.Holds := by
  w_on; o_law
  exact h
end Law

/-! Own layer: steps through a reading, one small lemma a construct, so that a tactic can take them by the goal's head. -/
namespace Ox
open PySem PySem.Spec PyProof.Rows L2
/-! ### further operators -/
section
variable {X : Cx}
theorem op_mulA : OpR X (binaryOp .Mult) (rI IntMulOk fun i j => .int (i * j)) := opI fun _ _ _ _ _ _ _ hc q => mul_int q hc
theorem op_fdivA : OpR X (binaryOp .FloorDiv) (rI CDivW fun i j => .int (i / j)) := op_fdivW
def CPowW (i j : Int) : Prop := 0 ≤ j ∧ (Builtin.Int.intBits i : Int) * j ≤ 2 ^ 27
theorem op_powW : OpR X (binaryOp .Pow) (rI CPowW fun i j => .int (i ^ j.toNat)) := opI fun _ _ _ _ _ _ _ hc q => pow_int hc.1 hc.2 q
end
theorem mulok_l {i j : Int} (h1 : -(2 ^ 63) ≤ i) (h2 : i < 2 ^ 63) : IntMulOk i j := CMul.ok (.inl ⟨by omega, by omega⟩)
theorem mulok_r {i j : Int} (h1 : -(2 ^ 63) ≤ j) (h2 : j < 2 ^ 63) : IntMulOk i j := CMul.ok (.inr ⟨by omega, by omega⟩)
theorem divok {i j : Int} (h : 0 < j) (h2 : j < 2 ^ 62) : CDivW i j := wide_div (b := 62) h (by omega) (by decide) (by decide)
/-! ### callees -/
section
variable (P : Program) (w : World) (K : PySem.W.Frag) (mg : Str → Option Value) (base : Heap)
/-- the module's name x is a def of level k that keeps the promise sp -/
structure Cal (k : Nat) (x : Str) (ps : List Str) (sp : Sp) : Prop where
  ex : ∃ f fd, FnOk P w K mg base CX0 k f fd ps sp ∧ mg x = some (.ref f) ∧ PySem.W.keepIn K (.ref f) = true ∧ Binds K fd ps []
/-- the module's name x is the class at C, made by an __init__ of level k -/
structure Mkc (C : Addr) (k : Nat) (x : Str) (ps : List Str) (sp : Sp) : Prop where
  ex : ∃ f fd, Mk K C f ∧ FnOk P w K mg base CX0 k f fd ps sp ∧ mg x = some (.ref C) ∧ Binds K fd ps []
structure Met (C : Addr) (k : Nat) (m : Str) (ps : List Str) (sp : Sp) : Prop where
  ex : ∃ f fd, Meth K C m f ∧ FnOk P w K mg base CX0 k f fd ps sp ∧ Binds K fd ps []
structure Prp (C : Addr) (k : Nat) (m : Str) (sp : Sp) : Prop where
  ex : ∃ p f fd, PropOf K C m p f ∧ FnOk P w K mg base CX0 k f fd ["self"] sp ∧ Binds K fd ["self"] []
end
section
variable {X : Cx} {k : Nat} {x : Str} {ps : List Str} {sp : Sp} {e : Expr} {es : List Expr} {t : TA} {pos p : Pos} {C : Addr} {ta : TE} {m : Str}
theorem pe_cal (c : Cal X.prog X.w X.K X.mg X.base k x ps sp) (hr : Room k X.A) (hg : Gl X x) (ha : PA X (e :: es) t)
    (hs : starEach (e :: es) X.env = (false, eval e X.env) :: starEach es X.env := by rfl) (hp : (backTo pos (starEach es X.env)).any (·.1) = false := by rfl)
    (hdb : (x == ("__debug__" : Str)) = false := by decide) : PE X (.Call (.Name x p) (e :: es) [] pos) (tCall sp [] E0 t) := by
  obtain ⟨f, fd, F, g, kp, b⟩ := c.ex
  exact pe_call F hr hg g kp b .nil pass0 ha hdb hs hp
theorem pe_cal0 (c : Cal X.prog X.w X.K X.mg X.base k x ps sp) (hr : Room k X.A) (hg : Gl X x)
    (hdb : (x == ("__debug__" : Str)) = false := by decide) : PE X (.Call (.Name x p) [] [] pos) (tCall sp [] E0 tNil) := by
  obtain ⟨f, fd, F, g, kp, b⟩ := c.ex
  exact pe_call0 F hr hg g kp b .nil pass0 hdb
theorem pe_mk (c : Mkc X.prog X.w X.K X.mg X.base C k x ps sp) (hr : Room (k + 1) X.A) (hg : Gl X x) (ha : PA X (e :: es) t)
    (hs : starEach (e :: es) X.env = (false, eval e X.env) :: starEach es X.env := by rfl) (hp : (backTo pos (starEach es X.env)).any (·.1) = false := by rfl)
    (hdb : (x == ("__debug__" : Str)) = false := by decide) : PE X (.Call (.Name x p) (e :: es) [] pos) (tMake C sp [] E0 t) := by
  obtain ⟨f, fd, M, F, g, b⟩ := c.ex
  exact pe_make M F hr hg g b .nil pass0 ha hdb hs hp
theorem pe_prp {p' : Expr} (c : Prp X.prog X.w X.K X.mg X.base C k m sp) (kc : Cls X.K C) (hr : Room (k + 1) X.A) (he : PE X p' ta)
    (hab : attributeBase p' m X.env (eval p' X.env) = eval p' X.env := by rfl) : PE X (.Attribute p' m pos) (tProp C sp [] E0 ta) := by
  obtain ⟨q, f, fd, hp, F, b⟩ := c.ex
  exact pe_prop he kc hp F hr b .nil pass0 hab
end
/-! ### steps -/
section
variable {σ : L2.St} {H : Hp} {Q : VK} {i : Nat} {v x y : V} {ta tb te tc : TE} {n : L2.St → Hp → Prop} {r : VK} {b c : L2.St → Hp → Prop} {t u : TS} {tt tu : TT} {R : Bool → Hp → Prop} {K : PySem.W.Frag} {al : TA} {W : List V → Hp → Prop}
theorem x_var (h : σ[i]? = some (some v)) (q : Q v H) : tVar i σ H Q := ⟨v, h, q⟩
theorem x_c (q : Q v H) : tC v σ H Q := q
theorem x_op {o : R2} (q : ta σ H fun x H1 => tb σ H1 fun y H2 => o x y H2 Q) : tOp o ta tb σ H Q := q
theorem x_un {o : V → Hp → VK → Prop} (q : ta σ H fun x H1 => o x H1 Q) : tUn o ta σ H Q := q
theorem x_I0 {g : Int → Int → V} {i j : Int} (q : Q (g i j) H) : rI0 g (.int i) (.int j) H Q := ⟨i, j, rfl, rfl, q⟩
theorem x_I {C : Int → Int → Prop} {g : Int → Int → V} {i j : Int} (hc : C i j) (q : Q (g i j) H) : rI C g (.int i) (.int j) H Q := ⟨i, j, rfl, rfl, hc, q⟩
theorem x_U {g : Int → V} {i : Int} (q : Q (g i) H) : rU g (.int i) H Q := ⟨i, rfl, q⟩
theorem x_eqI {i j : Int} (q : Q (.bl (decide (i = j))) H) : rEq (.int i) (.int j) H Q := ⟨rfl, by rw [show decide (V.int i = V.int j) = decide (i = j) from by simp]; exact q⟩
theorem x_eqS {i j : Str} (q : Q (.bl (decide (i = j))) H) : rEq (.str i) (.str j) H Q := ⟨rfl, by rw [show decide (V.str i = V.str j) = decide (i = j) from by simp]; exact q⟩
theorem x_eqB {i j : Bool} (q : Q (.bl (decide (i = j))) H) : rEq (.bl i) (.bl j) H Q := ⟨rfl, by rw [show decide (V.bl i = V.bl j) = decide (i = j) from by simp]; exact q⟩
theorem x_neI {i j : Int} (q : Q (.bl (!decide (i = j))) H) : rNe (.int i) (.int j) H Q := ⟨rfl, by rw [show decide (V.int i = V.int j) = decide (i = j) from by simp]; exact q⟩
theorem x_neS {i j : Str} (q : Q (.bl (!decide (i = j))) H) : rNe (.str i) (.str j) H Q := ⟨rfl, by rw [show decide (V.str i = V.str j) = decide (i = j) from by simp]; exact q⟩
theorem x_neB {i j : Bool} (q : Q (.bl (!decide (i = j))) H) : rNe (.bl i) (.bl j) H Q := ⟨rfl, by rw [show decide (V.bl i = V.bl j) = decide (i = j) from by simp]; exact q⟩
theorem x_bl {k : Bool} (q : R k H) : ∃ c, V.bl k = V.bl c ∧ R c H := ⟨k, rfl, q⟩
theorem x_test (q : te σ H fun x H1 => ∃ k, x = .bl k ∧ R k H1) : tTest te σ H R := q
theorem x_B (q : te σ H fun x H1 => ∃ k, x = .bl k ∧ R k H1) : tB te σ H R := q
theorem x_not (q : tt σ H fun c H1 => R (!c) H1) : tNot tt σ H R := q
theorem x_and (q : tt σ H fun c H1 => if c = true then tu σ H1 R else R false H1) : tAnd tt tu σ H R := q
theorem x_or (q : tt σ H fun c H1 => if c = true then R true H1 else tu σ H1 R) : tOr tt tu σ H R := q
theorem x_andV (q : ta σ H fun x H1 => ∃ c, x = .bl c ∧ if c = true then tb σ H1 Q else Q (.bl false) H1) : tAndV ta tb σ H Q := q
theorem x_orV (q : ta σ H fun x H1 => ∃ c, x = .bl c ∧ if c = true then Q (.bl true) H1 else tb σ H1 Q) : tOrV ta tb σ H Q := q
theorem x_notV (q : ta σ H fun x H1 => ∃ c, x = .bl c ∧ Q (.bl (!c)) H1) : tNotV ta σ H Q := q
theorem x_blV {k : Bool} {F : Bool → Prop} (q : F k) : ∃ c, V.bl k = V.bl c ∧ F c := ⟨k, rfl, q⟩
theorem x_ifE (q : tt σ H fun c H1 => if c = true then ta σ H1 Q else tb σ H1 Q) : tIf tt ta tb σ H Q := q
theorem x_chain {o o' : R2} (q : ta σ H fun x H1 => tb σ H1 fun y H2 => o x y H2 fun z H3 => ∃ k, z = .bl k ∧ (if k = true then tc σ H3 fun w' H4 => o' y w' H4 Q else Q (.bl false) H3)) : tChain o o' ta tb tc σ H Q := q
theorem x_nil (q : W [] H) : tNil σ H W := q
theorem x_cons {ar : TA} (q : ta σ H fun x H1 => ar σ H1 fun xs H2 => W (x :: xs) H2) : tCons ta ar σ H W := q
theorem x_tup (q : al σ H fun xs H1 => xs.length ≤ sizeLine ∧ ∀ p, H1 p = none → Q (.ref p) (upd H1 p (.tup xs))) : tTup al σ H Q := q
theorem x_lst (q : al σ H fun xs H1 => xs.length ≤ sizeLine ∧ ∀ p, H1 p = none → Q (.ref p) (upd H1 p (.lst xs))) : tLst al σ H Q := q
theorem x_cb {o : List V → Hp → VK → Prop} (q : al σ H fun vs H1 => o vs H1 Q) : tCB o al σ H Q := q
theorem x_call {sp : Sp} {E : XK} (q : al σ H fun vs H1 => sp vs H1 Q E) : tCall sp [] E al σ H Q := by
  show al σ H fun vs H1 => sp (vs ++ []) H1 Q E
  have e : (fun (vs : List V) (H1 : Hp) => sp (vs ++ []) H1 Q E) = fun vs H1 => sp vs H1 Q E := by
    funext vs H1
    rw [List.append_nil]
  rw [e]
  exact q
theorem x_make {C : Addr} {sp : Sp} {E : XK} (q : al σ H fun vs H1 => ∀ x dx, H1 x = none → H1 dx = none → dx ≠ x → sp (.ref x :: vs) (upd (upd H1 dx (.own x)) x (.ins C dx [])) (fun v H2 => v = .non ∧ Q (.ref x) H2) E) : tMake C sp [] E al σ H Q := by
  have e : (fun (vs : List V) (H1 : Hp) => ∀ x dx, H1 x = none → H1 dx = none → dx ≠ x → sp (.ref x :: (vs ++ [])) (upd (upd H1 dx (.own x)) x (.ins C dx [])) (fun v H2 => v = .non ∧ Q (.ref x) H2) E) =
      fun (vs : List V) (H1 : Hp) => ∀ x dx, H1 x = none → H1 dx = none → dx ≠ x → sp (.ref x :: vs) (upd (upd H1 dx (.own x)) x (.ins C dx [])) (fun v H2 => v = .non ∧ Q (.ref x) H2) E := by
    funext vs H1
    rw [List.append_nil]
  show al σ H fun vs H1 => ∀ x dx, H1 x = none → H1 dx = none → dx ≠ x → sp (.ref x :: (vs ++ [])) (upd (upd H1 dx (.own x)) x (.ins C dx [])) (fun v H2 => v = .non ∧ Q (.ref x) H2) E
  rw [e]
  exact q
/-! ### statements -/
theorem x_seq (h : t ⟨u ⟨n, r, b, c⟩, r, b, c⟩ σ H) : tSeq t u ⟨n, r, b, c⟩ σ H := h
theorem x_next (h : n σ H) : tNext ⟨n, r, b, c⟩ σ H := h
theorem x_brk (h : b σ H) : tBreak ⟨n, r, b, c⟩ σ H := h
theorem x_cont (h : c σ H) : tCont ⟨n, r, b, c⟩ σ H := h
theorem x_ret (h : te σ H r) : tRet te ⟨n, r, b, c⟩ σ H := h
theorem x_retN (h : r .non H) : tRetN ⟨n, r, b, c⟩ σ H := h
theorem x_drop (h : te σ H fun _ H1 => n σ H1) : tDrop te ⟨n, r, b, c⟩ σ H := h
theorem x_set (h : te σ H fun v H1 => n (σ.set i (some v)) H1) : tAsg te (gName i) ⟨n, r, b, c⟩ σ H := h
theorem x_if (h : tt σ H fun k H1 => if k = true then t ⟨n, r, b, c⟩ σ H1 else u ⟨n, r, b, c⟩ σ H1) : tIfS tt t u ⟨n, r, b, c⟩ σ H := h
theorem x_nx (h : n σ H) : (Ends.mk n r b c).nx σ H := h
theorem x_par {i j : Nat} (h : al σ H fun vs H1 => ∃ v w, vs = [v, w] ∧ n ((σ.set i (some v)).set j (some w)) H1) : tPar i j al ⟨n, r, b, c⟩ σ H := h
theorem x_par2 {F : V → V → Prop} {v w : V} (h : F v w) : ∃ v' w', [v, w] = [v', w'] ∧ F v' w' := ⟨v, w, rfl, h⟩
theorem x_aug {j : Nat} {tip : TIp} (hx : σ[j]? = some (some x)) (h : te σ H fun y H1 => tip x y H1 fun z H2 => n (σ.set j (some z)) H2) : tAug j te tip ⟨n, r, b, c⟩ σ H := ⟨x, hx, h⟩
theorem x_ipI {f : Int → Int → Int} {i j : Int} (q : Q (.int (f i j)) H) : ipI f (.int i) (.int j) H Q := ⟨i, j, rfl, rfl, q⟩
/-- xs[i] = v -/
theorem x_setL (h : te σ H fun v H0 => ta σ H0 fun o H1 => tb σ H1 fun k H2 => rSetL o k v H2 fun H3 => n σ H3) : tAsg te (gSub ta tb rSetL) ⟨n, r, b, c⟩ σ H := h
theorem x_setl {l : Addr} {xs : List V} {j : Nat} {k : Int} {N : Hp → Prop} (h : H l = some (.lst xs)) (hk : k = (j : Int)) (hj : j < xs.length) (q : N (upd H l (.lst (xs.set j v)))) : rSetL (.ref l) (.int k) v H N :=
  ⟨l, xs, k, j, rfl, rfl, h, by subst hk; unfold ixN; rw [if_pos (by omega), if_pos (by omega)]; simp, q⟩
/-- a test decided -/
theorem x_ite {A B : Prop} {k : Bool} (h1 : k = true → A) (h2 : k = false → B) : if k = true then A else B := by
  cases k with
  | true => exact h1 rfl
  | false =>
    show if false = true then A else B
    rw [if_neg Bool.false_ne_true]
    exact h2 rfl
theorem x_dec {A B p : Prop} [Decidable p] (h1 : p → A) (h2 : ¬ p → B) : if decide p = true then A else B := x_ite (fun e => h1 (of_decide_eq_true e)) fun e => h2 (of_decide_eq_false e)
theorem x_ndec {A B p : Prop} [Decidable p] (h1 : ¬ p → A) (h2 : p → B) : if (!decide p) = true then A else B := x_ite (fun e => h1 (of_decide_eq_false (by simpa using e))) fun e => h2 (of_decide_eq_true (by simpa using e))
theorem x_yes {A B p : Prop} [Decidable p] (hp : p) (h1 : A) : if decide p = true then A else B := x_dec (fun _ => h1) fun z => absurd hp z
theorem x_no {A B p : Prop} [Decidable p] (hp : ¬ p) (h2 : B) : if decide p = true then A else B := x_dec (fun z => absurd z hp) fun _ => h2
theorem x_T {A B : Prop} (h : A) : if true = true then A else B := x_ite (fun _ => h) fun z => by cases z
theorem x_F {A B : Prop} (h : B) : if false = true then A else B := x_ite (fun z => by cases z) fun _ => h
theorem x_nT {A B : Prop} (h : B) : if (!true) = true then A else B := x_F h
theorem x_nF {A B : Prop} (h : A) : if (!false) = true then A else B := x_T h
theorem x_nyes {A B p : Prop} [Decidable p] (hp : p) (h2 : B) : if (!decide p) = true then A else B := x_ndec (fun z => absurd hp z) fun _ => h2
theorem x_nno {A B p : Prop} [Decidable p] (hp : ¬ p) (h1 : A) : if (!decide p) = true then A else B := x_ndec (fun _ => h1) fun z => absurd z hp
/-! ### values of built-ins -/
theorem x_ixL {p : Addr} {xs : List V} {k : Int} (h : SqL K H p xs) (ha : atI xs k = some v) (q : Q v H) : rIxL K (.ref p) (.int k) H Q := ⟨p, xs, k, v, rfl, rfl, h, ha, q⟩
theorem x_ixT {p : Addr} {xs : List V} {k : Int} (h : SqT K H p xs) (ha : atI xs k = some v) (q : Q v H) : rIxT K (.ref p) (.int k) H Q := ⟨p, xs, k, v, rfl, rfl, h, ha, q⟩
theorem x_ixS {z : Str} {k : Int} {d : Nat} (h : z.length ≤ sizeLine) (ha : atI z.cps.toList k = some d) (q : Q (.str ⟨#[d]⟩) H) : rIxS (.str z) (.int k) H Q := ⟨z, k, d, rfl, rfl, h, ha, q⟩
theorem x_bm {T : String} {o : V → List V → Hp → VK → Prop} (q : ta σ H fun x H1 => tyV K T x H1 ∧ al σ H1 fun xs H2 => o x xs H2 Q) : tBM K T o ta al σ H Q := q
theorem x_bm0 {T : String} {o : V → List V → Hp → VK → Prop} (q : ta σ H fun x H1 => tyV K T x H1 ∧ o x [] H1 Q) : tBM0 K T o ta σ H Q := q
theorem x_tyL {p : Addr} {xs : List V} {A : Prop} (h : SqL K H p xs) (q : A) : tyV K "list" (.ref p) H ∧ A := ⟨.inl ⟨rfl, xs, h⟩, q⟩
theorem x_app {l : Addr} {xs : List V} (h : H l = some (.lst xs)) (hl : xs.length < sizeLine) (q : Q .non (upd H l (.lst (xs ++ [y])))) : rAppend (.ref l) [y] H Q := ⟨l, xs, y, rfl, rfl, h, hl, q⟩
theorem x_popAt {l : Addr} {xs : List V} {j : Nat} {k : Int} (h : H l = some (.lst xs)) (hk : k = (j : Int)) (hj : xs[j]? = some y) (hs : xs.length ≤ 10000) (q : Q y (upd H l (.lst (xs.eraseIdx j)))) : rPopAt (.ref l) [.int k] H Q := by
  have hlt : j < xs.length := (List.getElem?_eq_some_iff.mp hj).1
  subst hk
  refine ⟨l, xs, _, j, y, rfl, rfl, h, by omega, by omega, ?_, hj, q⟩
  unfold seqIndex?
  first
    | (rw [if_neg (by omega), if_pos (by omega)]; simp)
    | (simp; omega)
    | (simp [hlt])
end
/-! ### loops, each by a word over turn, slots and heap -/
section
variable {σ : L2.St} {H : Hp} {te : TE} {n : L2.St → Hp → Prop} {r : VK} {b c : L2.St → Hp → Prop} {tb : TS} {g : TG} {K : PySem.W.Frag} {al : TA} {p : Addr}
/-- the loop over what J tells -/
def Lp (J : It) (g : TG) (tb : TS) (D : Ends) (σ : L2.St) (H : Hp) : Prop := ∃ W : Nat → Nat → L2.St → Hp → Prop, (∃ m, W 0 m σ H) ∧ ∀ i m σ H, W i m σ H →
  (J.stop i H ∧ D.nx σ H) ∨ (J.go i H ∧ ∃ N : L2.St → Hp → Prop, (∀ σ' H', N σ' H' → ∃ m', m' < m ∧ W (i + 1) m' σ' H') ∧ ∀ x H', J.yld i H x H' → g x σ H' fun σ2 H2 => tb { D with nx := N, ct := N, bk := D.nx } σ2 H2)
def LpL (K : PySem.W.Frag) (g : TG) (tb : TS) (D : Ends) (σ : L2.St) (x : V) (H : Hp) : Prop := ∃ a, x = .ref a ∧ (∃ xs, SqL K H a xs) ∧ Lp (Itl K a) g tb D σ H
def LpT (K : PySem.W.Frag) (g : TG) (tb : TS) (D : Ends) (σ : L2.St) (x : V) (H : Hp) : Prop := ∃ a, x = .ref a ∧ (∃ xs, SqT K H a xs) ∧ Lp (Itt K a) g tb D σ H
def LpR (g : TG) (tb : TS) (D : Ends) (σ : L2.St) (vs : List V) (H : Hp) : Prop := ∃ j : Int, vs = [.int j] ∧ -(2 ^ 62) ≤ j ∧ j < 2 ^ 62 ∧ Lp (Itr 0 j.toNat) g tb D σ H
def LpR2 (g : TG) (tb : TS) (D : Ends) (σ : L2.St) (vs : List V) (H : Hp) : Prop := ∃ i j : Int, vs = [.int i, .int j] ∧ (-(2 ^ 62) ≤ i ∧ i < 2 ^ 62 ∧ -(2 ^ 62) ≤ j ∧ j < 2 ^ 62) ∧ Lp (Itr i (j - i).toNat) g tb D σ H
def LpS (g : TG) (tb : TS) (D : Ends) (σ : L2.St) (x : V) (H : Hp) : Prop := ∃ z, x = .str z ∧ Lp (Its z) g tb D σ H
def LpK (g : TG) (tb : TS) (D : Ends) (σ : L2.St) (x : V) (H : Hp) : Prop := ∃ d o, x = .ref d ∧ ((∃ kvs, H d = some (.frz o (.dK kvs)) ∧ Lp (Itk d o kvs) g tb D σ H) ∨ ∃ kvs, H d = some (.frz o (.dT kvs)) ∧ Lp (Itkt d o kvs) g tb D σ H)
def LpI (g : TG) (tb : TS) (D : Ends) (σ : L2.St) (x : V) (H : Hp) : Prop := ∃ d o kvs, x = .ref d ∧ H d = some (.frz o (.dK kvs)) ∧ Lp (Iti d o kvs) g tb D σ H
def LpV (g : TG) (tb : TS) (D : Ends) (σ : L2.St) (x : V) (H : Hp) : Prop := ∃ d o kvs, x = .ref d ∧ H d = some (.frz o (.dK kvs)) ∧ Lp (Itd d o kvs) g tb D σ H
theorem x_forL (h : te σ H fun x H1 => LpL K g tb ⟨n, r, b, c⟩ σ x H1) : tFor (iList K te) g tb ⟨n, r, b, c⟩ σ H := h
theorem x_forT (h : te σ H fun x H1 => LpT K g tb ⟨n, r, b, c⟩ σ x H1) : tFor (iTup K te) g tb ⟨n, r, b, c⟩ σ H := h
theorem x_forR (h : al σ H fun x H1 => LpR g tb ⟨n, r, b, c⟩ σ x H1) : tFor (iRng1 al) g tb ⟨n, r, b, c⟩ σ H := h
theorem x_forR2 (h : al σ H fun x H1 => LpR2 g tb ⟨n, r, b, c⟩ σ x H1) : tFor (iRng2 al) g tb ⟨n, r, b, c⟩ σ H := h
theorem x_forS (h : te σ H fun x H1 => LpS g tb ⟨n, r, b, c⟩ σ x H1) : tFor (iStr te) g tb ⟨n, r, b, c⟩ σ H := h
theorem x_forK (h : te σ H fun x H1 => LpK g tb ⟨n, r, b, c⟩ σ x H1) : tFor (iKeys te) g tb ⟨n, r, b, c⟩ σ H := h
theorem x_forI (h : te σ H fun x H1 => LpI g tb ⟨n, r, b, c⟩ σ x H1) : tFor (iItems te) g tb ⟨n, r, b, c⟩ σ H := h
theorem x_forV (h : te σ H fun x H1 => LpV g tb ⟨n, r, b, c⟩ σ x H1) : tFor (iVals te) g tb ⟨n, r, b, c⟩ σ H := h
/-- a name of the loop: the turn stores it -/
theorem lp_by {J : It} {m : Nat} {G : Hp → Prop} {Y : Nat → Hp → V → Hp → Prop} (w : L2.Walk J m G Y) (Pv : Nat → L2.St → Hp → Prop) (h0 : Pv 0 σ H) (hG : ∀ i σ H, i ≤ m → Pv i σ H → G H)
    (hs : ∀ i x σ H H', i < m → Pv i σ H → Y i H x H' → g x σ H' fun σ2 H2 => tb ⟨Pv (i + 1), r, n, Pv (i + 1)⟩ σ2 H2) (hd : ∀ σ H, Pv m σ H → n σ H) : Lp J g tb ⟨n, r, b, c⟩ σ H := L2.for_it w Pv h0 hG hs hd
theorem lpL {xs : List V} (Pv : Nat → L2.St → Hp → Prop) (h : SqL K H p xs) (h0 : Pv 0 σ H) (hG : ∀ i σ H, i ≤ xs.length → Pv i σ H → SqL K H p xs)
    (hs : ∀ i x σ H, xs[i]? = some x → Pv i σ H → g x σ H fun σ2 H2 => tb ⟨Pv (i + 1), r, n, Pv (i + 1)⟩ σ2 H2) (hd : ∀ σ H, Pv xs.length σ H → n σ H) : LpL K g tb ⟨n, r, b, c⟩ σ (.ref p) H :=
  ⟨p, rfl, ⟨xs, h⟩, lp_by walk_list Pv h0 hG (fun i x σ H H' _ hp y => by obtain ⟨rfl, e⟩ := y; exact hs i x σ _ e hp) hd⟩
theorem lpT {xs : List V} (Pv : Nat → L2.St → Hp → Prop) (h : SqT K H p xs) (h0 : Pv 0 σ H) (hG : ∀ i σ H, i ≤ xs.length → Pv i σ H → SqT K H p xs)
    (hs : ∀ i x σ H, xs[i]? = some x → Pv i σ H → g x σ H fun σ2 H2 => tb ⟨Pv (i + 1), r, n, Pv (i + 1)⟩ σ2 H2) (hd : ∀ σ H, Pv xs.length σ H → n σ H) : LpT K g tb ⟨n, r, b, c⟩ σ (.ref p) H :=
  ⟨p, rfl, ⟨xs, h⟩, lp_by walk_tup Pv h0 hG (fun i x σ H H' _ hp y => by obtain ⟨rfl, e⟩ := y; exact hs i x σ _ e hp) hd⟩
theorem lpR {j : Int} (Pv : Nat → L2.St → Hp → Prop) (hj : -(2 ^ 62) ≤ j ∧ j < 2 ^ 62) (h0 : Pv 0 σ H)
    (hs : ∀ i σ H, i < j.toNat → Pv i σ H → g (.int (i : Int)) σ H fun σ2 H2 => tb ⟨Pv (i + 1), r, n, Pv (i + 1)⟩ σ2 H2) (hd : ∀ σ H, Pv j.toNat σ H → n σ H) : LpR g tb ⟨n, r, b, c⟩ σ [.int j] H :=
  ⟨j, rfl, hj.1, hj.2, lp_by walk_range Pv h0 (fun _ _ _ _ _ => trivial) (fun i x σ H H' hi hp y => by
    obtain ⟨rfl, rfl⟩ := y
    dsimp only
    rw [Int.zero_add]
    exact hs i σ _ hi hp) hd⟩
theorem lpR2 {i0 j : Int} (Pv : Nat → L2.St → Hp → Prop) (hj : (-(2 ^ 62) ≤ i0 ∧ i0 < 2 ^ 62 ∧ -(2 ^ 62) ≤ j ∧ j < 2 ^ 62)) (h0 : Pv 0 σ H)
    (hs : ∀ i σ H, i < (j - i0).toNat → Pv i σ H → g (.int (i0 + (i : Int))) σ H fun σ2 H2 => tb ⟨Pv (i + 1), r, n, Pv (i + 1)⟩ σ2 H2) (hd : ∀ σ H, Pv (j - i0).toNat σ H → n σ H) : LpR2 g tb ⟨n, r, b, c⟩ σ [.int i0, .int j] H :=
  ⟨i0, j, rfl, hj, lp_by walk_range Pv h0 (fun _ _ _ _ _ => trivial) (fun i x σ H H' hi hp y => by
    obtain ⟨rfl, rfl⟩ := y
    exact hs i σ _ hi hp) hd⟩
theorem lpS {z : Str} (Pv : Nat → L2.St → Hp → Prop) (h0 : Pv 0 σ H)
    (hs : ∀ i d σ H, z.cps[i]? = some d → Pv i σ H → g (.str ⟨#[d]⟩) σ H fun σ2 H2 => tb ⟨Pv (i + 1), r, n, Pv (i + 1)⟩ σ2 H2) (hd : ∀ σ H, Pv z.cps.size σ H → n σ H) : LpS g tb ⟨n, r, b, c⟩ σ (.str z) H :=
  ⟨z, rfl, lp_by walk_str Pv h0 (fun _ _ _ _ _ => trivial) (fun i x σ H H' hi hp y => by
    obtain ⟨rfl, d, e, rfl⟩ := y
    exact hs i d σ _ e hp) hd⟩
theorem lpK {o : Obj} {kvs : List (Key × V)} (Pv : Nat → L2.St → Hp → Prop) (h : H p = some (.frz o (.dK kvs))) (h0 : Pv 0 σ H) (hG : ∀ i σ H, i ≤ kvs.length → Pv i σ H → H p = some (.frz o (.dK kvs)))
    (hs : ∀ i k v σ H, kvs[i]? = some (k, v) → Pv i σ H → g (kV k) σ H fun σ2 H2 => tb ⟨Pv (i + 1), r, n, Pv (i + 1)⟩ σ2 H2) (hd : ∀ σ H, Pv kvs.length σ H → n σ H) : LpK g tb ⟨n, r, b, c⟩ σ (.ref p) H :=
  ⟨p, o, rfl, .inl ⟨kvs, h, lp_by walk_keys Pv h0 hG (fun i x σ H H' _ hp y => by
    obtain ⟨rfl, k, v, e, rfl⟩ := y
    exact hs i k v σ _ e hp) hd⟩⟩
theorem lpV {o : Obj} {kvs : List (Key × V)} (Pv : Nat → L2.St → Hp → Prop) (h : H p = some (.frz o (.dK kvs))) (h0 : Pv 0 σ H) (hG : ∀ i σ H, i ≤ kvs.length → Pv i σ H → H p = some (.frz o (.dK kvs)))
    (hs : ∀ i k v σ H, kvs[i]? = some (k, v) → Pv i σ H → g v σ H fun σ2 H2 => tb ⟨Pv (i + 1), r, n, Pv (i + 1)⟩ σ2 H2) (hd : ∀ σ H, Pv kvs.length σ H → n σ H) : LpV g tb ⟨n, r, b, c⟩ σ (.ref p) H :=
  ⟨p, o, kvs, rfl, h, lp_by walk_values Pv h0 hG (fun i x σ H H' _ hp y => by
    obtain ⟨rfl, k, e⟩ := y
    exact hs i k x σ _ e hp) hd⟩
/-- the pairs, a new tuple each -/
theorem lpI {o : Obj} {kvs : List (Key × V)} (Pv : Nat → L2.St → Hp → Prop) (h : H p = some (.frz o (.dK kvs))) (h0 : Pv 0 σ H) (hG : ∀ i σ H, i ≤ kvs.length → Pv i σ H → H p = some (.frz o (.dK kvs)))
    (hs : ∀ i k v σ H T, kvs[i]? = some (k, v) → Pv i σ H → H T = none → g (.ref T) σ (upd H T (.tup [kV k, v])) fun σ2 H2 => tb ⟨Pv (i + 1), r, n, Pv (i + 1)⟩ σ2 H2) (hd : ∀ σ H, Pv kvs.length σ H → n σ H) : LpI g tb ⟨n, r, b, c⟩ σ (.ref p) H :=
  ⟨p, o, kvs, rfl, h, lp_by walk_items Pv h0 hG (fun i x σ H H' hi hp y => by
    obtain ⟨T, k, v, rfl, hT, rfl, e1, e2⟩ := y
    dsimp only at e1 e2
    cases e : kvs[i]? with
    | none => rw [e] at e1; cases e1
    | some kv =>
      rw [e] at e1 e2
      have e3 : kV kv.1 = k := Option.some.inj e1
      have e4 : kv.2 = v := Option.some.inj e2
      subst e3 e4
      exact hs i kv.1 kv.2 σ _ T e hp hT) hd⟩
theorem x_g1 {v : V} {i : Nat} {N : L2.St → Hp → Prop} (h : N (σ.set i (some v)) H) : gName i v σ H N := h
theorem x_g2 {T : Addr} {v w : V} {i j : Nat} {N : L2.St → Hp → Prop} (ht : SqT K H T [v, w]) (h : N ((σ.set i (some v)).set j (some w)) H) : gTup K 2 (gCons (gName i) (gCons (gName j) gNil)) (.ref T) σ H N :=
  ⟨T, [v, w], rfl, ht, rfl, v, [w], rfl, w, [], rfl, rfl, h⟩
end
/-! ### heaps: all but one kept -/
def But (p : Addr) (H H' : Hp) : Prop := ∀ b o, H b = some o → b ≠ p → H' b = some o
theorem But.refl {p : Addr} {H : Hp} : But p H H := fun _ _ h _ => h
theorem But.trans {p : Addr} {H H1 H2 : Hp} (a : But p H H1) (b : But p H1 H2) : But p H H2 := fun q o h e => b q o (a q o h e) e
theorem But.at_ {p : Addr} {H H' : Hp} {o : HO} (a : But p H H') : But p H (upd H' p o) := fun q u h e => by rw [upd_ne e]; exact a q u h e
theorem But.new {p q : Addr} {H H' : Hp} {o : HO} (a : But p H H') (h : H' q = none) : But p H (upd H' q o) := fun b u hb e => by
  have h1 := a b u hb e
  rw [upd_ne (ne_of_none h1 h)]
  exact h1
theorem But.of_same {p : Addr} {H H' : Hp} (a : L2.Same H H') : But p H H' := fun b o h _ => a b o h
theorem But.lst {K : PySem.W.Frag} {p q : Addr} {xs : List V} {H H' : Hp} (a : But p H H') (e : q ≠ p) (h : SqL K H q xs) : SqL K H' q xs := by
  rcases h with (h | ⟨o, h⟩) | h
  · exact .inl (.inl (a _ _ h e))
  · exact .inl (.inr ⟨o, a _ _ h e⟩)
  · exact .inr h
theorem ne_old {H : Hp} {a b : Addr} {o : HO} (h' : H b = none) (h : H a = some o) : a ≠ b := ne_of_none h h'
theorem ne_two {H : Hp} {a b : Addr} {o u : HO} (h : H a = some o) (h' : H b = some u) (d : o ≠ u) : a ≠ b := ne_of h h' d
/-! ### named readings of rules (so that a step can be told by its head) -/
def rLenA (K : PySem.W.Frag) : List V → Hp → VK → Prop := fun xs H Q => ∃ x n, xs = [x] ∧ LenV K x H n ∧ Q (.int n) H
def rLenDA : List V → Hp → VK → Prop := fun xs H Q => ∃ a kvs, xs = [V.ref a] ∧ Rd H a (.dK kvs) ∧ Q (.int kvs.length) H
def rIntA : List V → Hp → VK → Prop := fun xs H Q => (∃ i, xs = [.int i] ∧ Q (.int i) H) ∨ ∃ k, xs = [.bl k] ∧ Q (.int (if k then 1 else 0)) H
def rStrIA : List V → Hp → VK → Prop := fun xs H Q => ∃ i, xs = [.int i] ∧ i.natAbs.log2 < 1920 ∧ Q (.str (toString i)) H
def rAbsA : List V → Hp → VK → Prop := fun xs H Q => ∃ i, xs = [.int i] ∧ Q (.int (if i < 0 then -i else i)) H
def rMax2A : List V → Hp → VK → Prop := fun xs H Q => ∃ i j, xs = [.int i, .int j] ∧ Q (.int (if j > i then j else i)) H
def rMin2A : List V → Hp → VK → Prop := fun xs H Q => ∃ i j, xs = [.int i, .int j] ∧ Q (.int (if j < i then j else i)) H
def rListA (K : PySem.W.Frag) : List V → Hp → VK → Prop := fun xs H Q => ∃ p ys, xs = [.ref p] ∧ (SqL K H p ys ∨ SqT K H p ys) ∧ ∀ l, H l = none → Q (.ref l) (upd H l (.lst ys))
def rTupleA (K : PySem.W.Frag) : List V → Hp → VK → Prop := fun xs H Q => ∃ p ys, xs = [.ref p] ∧ ((SqL K H p ys ∧ ∀ l, H l = none → Q (.ref l) (upd H l (.tup ys))) ∨ (SqT K H p ys ∧ Q (.ref p) H))
def rDictA : List V → Hp → VK → Prop := fun xs H Q => ∃ (a : Addr) (kvs : List (Key × V)), xs = [.ref a] ∧ Rd H a (.dK kvs) ∧ ∀ p, H p = none → Q (.ref p) (upd H p (.dK kvs))
def rStr2 (g : Str → Str → Bool) : R2 := fun x y H Q => ∃ i j, x = .str i ∧ y = .str j ∧ Q (.bl (g i j)) H
def rAddSA : R2 := fun x y H Q => ∃ i j, x = .str i ∧ y = .str j ∧ i.length + j.length ≤ sizeLine ∧ Q (.str (i ++ j)) H
def rInSA : R2 := fun x y H Q => ∃ (c : Nat) (z : Str), x = .str ⟨#[c]⟩ ∧ y = .str z ∧ Q (.bl (decide (c ∈ z.cps.toList))) H
def rNinSA : R2 := fun x y H Q => ∃ (c : Nat) (z : Str), x = .str ⟨#[c]⟩ ∧ y = .str z ∧ Q (.bl (!decide (c ∈ z.cps.toList))) H
def rIsNA : R2 := fun x y H Q => y = .non ∧ Q (.bl (decide (x = .non))) H
def rNotNA : R2 := fun x y H Q => y = .non ∧ Q (.bl (!decide (x = .non))) H
section
variable {X : Cx}
theorem call_lenA : CallR X (.builtin "len") (rLenA X.K) := call_len
theorem call_lenDA : CallR X (.builtin "len") rLenDA := by
  intro pins s σ H xs us Q I r h
  obtain ⟨a, kvs, rfl, ha, q⟩ := h
  obtain ⟨u, rfl, ru⟩ := vals1 r
  cases ru
  exact d_len I ha fun t s' I' => ⟨.int kvs.length, H, I', ⟨t, rfl⟩, q⟩
theorem call_intA : CallR X (.type "int") rIntA := call_int1
theorem call_strIA : CallR X (.type "str") rStrIA := call_str_int
theorem call_absA : CallR X (.builtin "abs") rAbsA := call_abs
theorem call_max2A (hc : X.calm = true) : CallR X (.builtin "max") rMax2A := call_max2 hc
theorem call_min2A (hc : X.calm = true) : CallR X (.builtin "min") rMin2A := call_min2 hc
theorem call_listA : CallR X (.type "list") (rListA X.K) := call_list_of
theorem call_tupleA : CallR X (.type "tuple") (rTupleA X.K) := call_tuple_of
theorem call_dictA : CallR X (.type "dict") rDictA := call_dictD
theorem op_ltS : OpR X (compareOp .Lt) (rStr2 fun i j => decide (i.cps.toList < j.cps.toList)) := op_lt_str
theorem op_leS : OpR X (compareOp .LtE) (rStr2 fun i j => !decide (j.cps.toList < i.cps.toList)) := op_le_str
theorem op_gtS : OpR X (compareOp .Gt) (rStr2 fun i j => decide (j.cps.toList < i.cps.toList)) := op_gt_str
theorem op_geS : OpR X (compareOp .GtE) (rStr2 fun i j => !decide (i.cps.toList < j.cps.toList)) := op_ge_str
theorem op_addSA : OpR X (binaryOp .Add) rAddSA := op_add_str
theorem op_inSA : OpR X (compareOp .In) rInSA := op_in_sign
theorem op_ninSA : OpR X (compareOp .NotIn) rNinSA := op_notIn_sign
theorem op_isNA : OpR X (compareOp .Is) rIsNA := op_isN
theorem op_notNA : OpR X (compareOp .IsNot) rNotNA := op_notN
end
section
variable {σ : L2.St} {H : Hp} {Q : VK} {v x y : V} {ta : TE} {K : PySem.W.Frag}
theorem x_lenL {p : Addr} {xs : List V} (h : SqL K H p xs) (q : Q (.int xs.length) H) : rLenA K [V.ref p] H Q := ⟨_, _, rfl, .inl ⟨xs, h, rfl⟩, q⟩
theorem x_lenT {p : Addr} {xs : List V} (h : SqT K H p xs) (q : Q (.int xs.length) H) : rLenA K [V.ref p] H Q := ⟨_, _, rfl, .inr ⟨xs, h, rfl⟩, q⟩
theorem x_lenS {z : Str} (h : z.length ≤ sizeLine) (q : Q (.int z.length) H) : rLenA K [V.str z] H Q := ⟨_, _, rfl, ⟨h, rfl⟩, q⟩
theorem x_lenD {p : Addr} {kvs : List (Key × V)} (h : Rd H p (.dK kvs)) (q : Q (.int kvs.length) H) : rLenDA [V.ref p] H Q := ⟨p, kvs, rfl, h, q⟩
theorem x_intI {i : Int} (q : Q (.int i) H) : rIntA [V.int i] H Q := .inl ⟨i, rfl, q⟩
theorem x_strI {i : Int} (h : i.natAbs.log2 < 1920) (q : Q (.str (toString i)) H) : rStrIA [V.int i] H Q := ⟨i, rfl, h, q⟩
theorem x_abs {i : Int} (q : Q (.int (if i < 0 then -i else i)) H) : rAbsA [V.int i] H Q := ⟨i, rfl, q⟩
theorem x_max2 {i j : Int} (q : Q (.int (if j > i then j else i)) H) : rMax2A [V.int i, V.int j] H Q := ⟨i, j, rfl, q⟩
theorem x_min2 {i j : Int} (q : Q (.int (if j < i then j else i)) H) : rMin2A [V.int i, V.int j] H Q := ⟨i, j, rfl, q⟩
theorem x_str2 {g : Str → Str → Bool} {i j : Str} (q : Q (.bl (g i j)) H) : rStr2 g (.str i) (.str j) H Q := ⟨i, j, rfl, rfl, q⟩
theorem x_addS {i j : Str} (h : i.length + j.length ≤ sizeLine) (q : Q (.str (i ++ j)) H) : rAddSA (.str i) (.str j) H Q := ⟨i, j, rfl, rfl, h, q⟩
theorem x_inS {d : Nat} {z : Str} (q : Q (.bl (decide (d ∈ z.cps.toList))) H) : rInSA (.str ⟨#[d]⟩) (.str z) H Q := ⟨d, z, rfl, rfl, q⟩
theorem x_ninS {d : Nat} {z : Str} (q : Q (.bl (!decide (d ∈ z.cps.toList))) H) : rNinSA (.str ⟨#[d]⟩) (.str z) H Q := ⟨d, z, rfl, rfl, q⟩
theorem x_isN (q : Q (.bl (decide (x = .non))) H) : rIsNA x .non H Q := ⟨rfl, q⟩
theorem x_notN (q : Q (.bl (!decide (x = .non))) H) : rNotNA x .non H Q := ⟨rfl, q⟩
theorem x_listL {p : Addr} {xs : List V} (h : SqL K H p xs) (q : ∀ l, H l = none → Q (.ref l) (upd H l (.lst xs))) : rListA K [V.ref p] H Q := ⟨p, xs, rfl, .inl h, q⟩
theorem x_listT {p : Addr} {xs : List V} (h : SqT K H p xs) (q : ∀ l, H l = none → Q (.ref l) (upd H l (.lst xs))) : rListA K [V.ref p] H Q := ⟨p, xs, rfl, .inr h, q⟩
theorem x_tupL {p : Addr} {xs : List V} (h : SqL K H p xs) (q : ∀ l, H l = none → Q (.ref l) (upd H l (.tup xs))) : rTupleA K [V.ref p] H Q := ⟨p, xs, rfl, .inl ⟨h, q⟩⟩
theorem x_tupT {p : Addr} {xs : List V} (h : SqT K H p xs) (q : Q (.ref p) H) : rTupleA K [V.ref p] H Q := ⟨p, xs, rfl, .inr ⟨h, q⟩⟩
theorem x_dict {p : Addr} {kvs : List (Key × V)} (h : Rd H p (.dK kvs)) (q : ∀ l, H l = none → Q (.ref l) (upd H l (.dK kvs))) : rDictA [V.ref p] H Q := ⟨p, kvs, rfl, h, q⟩
def rFldA (K : PySem.W.Frag) (f : Str) (x : V) (H : Hp) (Q : VK) : Prop := ∃ a C dx fs v, x = .ref a ∧ H a = some (.ins C dx fs) ∧ Cls K C ∧ NoAttr K C f ∧ fs.lookup f = some v ∧ Q v H
theorem x_Fld {f : Str} (q : ta σ H fun x H1 => rFldA K f x H1 Q) : tFld K ta f σ H Q := q
theorem x_fld {a C dx : Addr} {fs : List (Str × V)} {f : Str} (hc : Cls K C) (hn : NoAttr K C f) (h : H a = some (.ins C dx fs)) (hl : fs.lookup f = some v) (q : Q v H) : rFldA K f (.ref a) H Q := ⟨a, C, dx, fs, v, rfl, h, hc, hn, hl, q⟩
end
end Ox
namespace Ox
open PySem PySem.Spec PyProof.Rows L2
theorem divok2 {i j : Int} (h : 0 < j) (h2 : j < 2 ^ 200) : CDivW i j := wide_div (b := 200) h (by omega) (by decide) (by decide)
end Ox
namespace Ox
open PySem PySem.Spec PyProof.Rows L2
section
variable {H : Hp} {Q : VK} {v : V} {K : PySem.W.Frag}
theorem x_ixl {p : Addr} {xs : List V} {k : Int} (j : Nat) (h : SqL K H p xs) (hk : k = (j : Int)) (ha : xs[j]? = some v) (q : Q v H) : rIxL K (.ref p) (.int k) H Q := x_ixL h (at_of hk ha) q
theorem x_ixt {p : Addr} {xs : List V} {k : Int} (j : Nat) (h : SqT K H p xs) (hk : k = (j : Int)) (ha : xs[j]? = some v) (q : Q v H) : rIxT K (.ref p) (.int k) H Q := x_ixT h (at_of hk ha) q
theorem x_ixs {z : Str} {k : Int} {d : Nat} (j : Nat) (h : z.length ≤ sizeLine) (hk : k = (j : Int)) (ha : z.cps.toList[j]? = some d) (q : Q (.str ⟨#[d]⟩) H) : rIxS (.str z) (.int k) H Q :=
  x_ixS h (by subst hk; exact atI_nat ha) q
end
end Ox
namespace Ox
open PySem PySem.Spec PyProof.Rows L2
theorem same_new {H : Hp} {p : Addr} {o : HO} (h : H p = none) : L2.Same H (upd H p o) := fun b u e => by rw [upd_ne (ne_of_none e h)]; exact e
/-- what H does not hold may change -/
theorem same_upd {H H' : Hp} {p : Addr} {o : HO} (s : L2.Same H H') (h : H p = none) : L2.Same H (upd H' p o) := fun b u e => by rw [upd_ne (ne_of_none e h)]; exact s b u e
theorem same_but {p : Addr} {H H1 H2 : Hp} (s : L2.Same H H1) (h : H p = none) (b : But p H1 H2) : L2.Same H H2 := fun q u e => b q u (s q u e) (ne_of_none e h)
theorem same_t {K : PySem.W.Frag} {H H' : Hp} {a : Addr} {xs : List V} (e : L2.Same H H') (h : SqT K H a xs) : SqT K H' a xs := by
  rcases h with (h | ⟨o, h⟩) | h
  · exact .inl (.inl (e _ _ h))
  · exact .inl (.inr ⟨o, e _ _ h⟩)
  · exact .inr h
theorem same_rd {H H' : Hp} {a : Addr} {u : HO} (e : L2.Same H H') (h : Rd H a u) : Rd H' a u := by
  rcases h with h | ⟨o, h⟩
  · exact .inl (e _ _ h)
  · exact .inr ⟨o, e _ _ h⟩
theorem but_rd {p : Addr} {H H' : Hp} {a : Addr} {u : HO} (e : But p H H') (n : a ≠ p) (h : Rd H a u) : Rd H' a u := by
  rcases h with h | ⟨o, h⟩
  · exact .inl (e _ _ h n)
  · exact .inr ⟨o, e _ _ h n⟩
theorem sz_le {n : Nat} (h : n ≤ 10000) : n ≤ sizeLine := Nat.le_trans h (by decide)
theorem sz_lt {n : Nat} (h : n < 10000) : n < sizeLine := Nat.lt_of_lt_of_le h (by decide)
end Ox
namespace Ox
open PySem PySem.Spec PyProof.Rows L2
theorem inV_strs (z : Str) (ws : List Str) : inV (.str z) (ws.map V.str) = decide (z ∈ ws) := by
  unfold inV
  induction ws with
  | nil => simp
  | cons a r ih =>
    rw [List.map_cons, List.any_cons, ih]
    show (a == z || decide (z ∈ r)) = decide (z ∈ a :: r)
    by_cases e : a = z
    · subst e
      simp
    · have e2 : (a == z) = false := by simpa using e
      have e3 : ¬ z = a := fun q => e q.symm
      rw [e2]
      simp [List.mem_cons, e3]
theorem flat_strs (ws : List Str) : (ws.map V.str).all flatV = true := by
  rw [List.all_map]
  exact List.all_eq_true.mpr fun _ _ => rfl
theorem inV_ints (z : Int) (ws : List Int) : inV (.int z) (ws.map V.int) = decide (z ∈ ws) := by
  unfold inV
  induction ws with
  | nil => simp
  | cons a r ih =>
    rw [List.map_cons, List.any_cons, ih]
    show (a == z || decide (z ∈ r)) = decide (z ∈ a :: r)
    by_cases e : a = z
    · subst e
      simp
    · have e2 : (a == z) = false := by simpa using e
      have e3 : ¬ z = a := fun q => e q.symm
      rw [e2]
      simp [List.mem_cons, e3]
theorem flat_ints (ws : List Int) : (ws.map V.int).all flatV = true := by
  rw [List.all_map]
  exact List.all_eq_true.mpr fun _ _ => rfl
section
variable {H : Hp} {Q : VK} {K : PySem.W.Frag} {p : Addr}
theorem x_inL {ws : List Str} {z : Str} (h : SqL K H p (ws.map V.str)) (q : Q (.bl (decide (z ∈ ws))) H) : rIn K false (.str z) (.ref p) H Q :=
  ⟨p, _, rfl, .inl h, rfl, flat_strs ws, by rw [inV_strs]; exact q⟩
theorem x_ninL {ws : List Str} {z : Str} (h : SqL K H p (ws.map V.str)) (q : Q (.bl (!decide (z ∈ ws))) H) : rIn K true (.str z) (.ref p) H Q :=
  ⟨p, _, rfl, .inl h, rfl, flat_strs ws, by rw [inV_strs]; exact q⟩
theorem x_inTs {ws : List Str} {z : Str} (h : SqT K H p (ws.map V.str)) (q : Q (.bl (decide (z ∈ ws))) H) : rIn K false (.str z) (.ref p) H Q :=
  ⟨p, _, rfl, .inr h, rfl, flat_strs ws, by rw [inV_strs]; exact q⟩
theorem x_inTi {ws : List Int} {z : Int} (h : SqT K H p (ws.map V.int)) (q : Q (.bl (decide (z ∈ ws))) H) : rIn K false (.int z) (.ref p) H Q :=
  ⟨p, _, rfl, .inr h, rfl, flat_ints ws, by rw [inV_ints]; exact q⟩
theorem x_ninTi {ws : List Int} {z : Int} (h : SqT K H p (ws.map V.int)) (q : Q (.bl (!decide (z ∈ ws))) H) : rIn K true (.int z) (.ref p) H Q :=
  ⟨p, _, rfl, .inr h, rfl, flat_ints ws, by rw [inV_ints]; exact q⟩
end
end Ox
namespace Ox
open PySem PySem.Spec PyProof.Rows L2
/-! ### comprehensions -/
section
variable {σ : L2.St} {H : Hp} {Q : VK} {te tk tv : TE} {n : L2.St → Hp → Prop} {r : VK} {b c : L2.St → Hp → Prop} {t : TS} {g : TG} {tt : TT} {K : PySem.W.Frag} {al : TA} {p D : Addr} {vs : List Nat} {wi : TI} {Qd : Hp → Prop}
def LcP (J : It) (g : TG) (tt : TT) (te : TE) (vs : List Nat) (σ : L2.St) (D : Addr) (Qd : Hp → Prop) (H1 : Hp) : Prop := ∃ W : Nat → Nat → Hp → Prop, (∃ m, W 0 m (upd H1 D (.lst []))) ∧ ∀ i m H, W i m H →
  (J.stop i H ∧ Qd H) ∨ (J.go i H ∧ ∃ Nx : Hp → Prop, (∀ H', Nx H' → ∃ m', m' < m ∧ W (i + 1) m' H') ∧ ∀ x H', J.yld i H x H' → g x (wipe σ vs) H' fun σ2 H2 => wipe σ2 vs = wipe σ vs ∧ tt σ2 H2 fun b H3 =>
    if b = true then te σ2 H3 fun y H4 => ∃ acc, H4 D = some (.lst acc) ∧ acc.length < sizeLine ∧ Nx (upd H4 D (.lst (acc ++ [y]))) else Nx H3)
def DcP (J : It) (g : TG) (tt : TT) (tk tv : TE) (vs : List Nat) (σ : L2.St) (D : Addr) (Qd : Hp → Prop) (H1 : Hp) : Prop := ∃ W : Nat → Nat → Hp → Prop, (∃ m, W 0 m (upd H1 D (.dK []))) ∧ ∀ i m H, W i m H →
  (J.stop i H ∧ Qd H) ∨ (J.go i H ∧ ∃ Nx : Hp → Prop, (∀ H', Nx H' → ∃ m', m' < m ∧ W (i + 1) m' H') ∧ ∀ x H', J.yld i H x H' → g x (wipe σ vs) H' fun σ2 H2 => wipe σ2 vs = wipe σ vs ∧ tt σ2 H2 fun b H3 =>
    if b = true then tk σ2 H3 fun y H4 => tv σ2 H4 fun z H5 => ∃ kvs k, y = kV k ∧ H5 D = some (.dK kvs) ∧ kvs.length < sizeLine ∧ Nx (upd H5 D (.dK (putK kvs k z))) else Nx H3)
theorem x_lc (h : wi σ H fun J H1 => ∀ D, H1 D = none → LcP J g tt te vs σ D (fun H2 => Q (.ref D) H2) H1) : tLc wi g tt te vs σ H Q := h
theorem x_dc (h : wi σ H fun J H1 => ∀ D, H1 D = none → DcP J g tt tk tv vs σ D (fun H2 => Q (.ref D) H2) H1) : tDc wi g tt tk tv vs σ H Q := h
theorem x_yes1 {R : Bool → Hp → Prop} (h : R true H) : tYes σ H R := h
def RunK (R : It → Hp → Prop) (x : V) (H : Hp) : Prop := ∃ d o, x = .ref d ∧ ((∃ kvs, H d = some (.frz o (.dK kvs)) ∧ R (Itk d o kvs) H) ∨ ∃ kvs, H d = some (.frz o (.dT kvs)) ∧ R (Itkt d o kvs) H)
def RunV (R : It → Hp → Prop) (x : V) (H : Hp) : Prop := ∃ d o kvs, x = .ref d ∧ H d = some (.frz o (.dK kvs)) ∧ R (Itd d o kvs) H
def RunI (R : It → Hp → Prop) (x : V) (H : Hp) : Prop := ∃ d o kvs, x = .ref d ∧ H d = some (.frz o (.dK kvs)) ∧ R (Iti d o kvs) H
def RunL (K : PySem.W.Frag) (R : It → Hp → Prop) (x : V) (H : Hp) : Prop := ∃ a, x = .ref a ∧ (∃ xs, SqL K H a xs) ∧ R (Itl K a) H
def RunT (K : PySem.W.Frag) (R : It → Hp → Prop) (x : V) (H : Hp) : Prop := ∃ a, x = .ref a ∧ (∃ xs, SqT K H a xs) ∧ R (Itt K a) H
def RunS (R : It → Hp → Prop) (x : V) (H : Hp) : Prop := ∃ z, x = .str z ∧ R (Its z) H
def RunR (R : It → Hp → Prop) (vs : List V) (H : Hp) : Prop := ∃ j : Int, vs = [.int j] ∧ -(2 ^ 62) ≤ j ∧ j < 2 ^ 62 ∧ R (Itr 0 j.toNat) H
theorem x_iK {R : It → Hp → Prop} (h : te σ H fun x H1 => RunK R x H1) : iKeys te σ H R := h
theorem x_iV {R : It → Hp → Prop} (h : te σ H fun x H1 => RunV R x H1) : iVals te σ H R := h
theorem x_iI {R : It → Hp → Prop} (h : te σ H fun x H1 => RunI R x H1) : iItems te σ H R := h
theorem x_iL {R : It → Hp → Prop} (h : te σ H fun x H1 => RunL K R x H1) : iList K te σ H R := h
theorem x_iT {R : It → Hp → Prop} (h : te σ H fun x H1 => RunT K R x H1) : iTup K te σ H R := h
theorem x_iS {R : It → Hp → Prop} (h : te σ H fun x H1 => RunS R x H1) : iStr te σ H R := h
theorem x_iR {R : It → Hp → Prop} (h : al σ H fun x H1 => RunR R x H1) : iRng1 al σ H R := h
theorem runK {R : It → Hp → Prop} {o : Obj} {kvs : List (Key × V)} (h : H p = some (.frz o (.dK kvs))) (q : R (Itk p o kvs) H) : RunK R (.ref p) H := ⟨p, o, rfl, .inl ⟨kvs, h, q⟩⟩
theorem runV {R : It → Hp → Prop} {o : Obj} {kvs : List (Key × V)} (h : H p = some (.frz o (.dK kvs))) (q : R (Itd p o kvs) H) : RunV R (.ref p) H := ⟨p, o, kvs, rfl, h, q⟩
theorem runI {R : It → Hp → Prop} {o : Obj} {kvs : List (Key × V)} (h : H p = some (.frz o (.dK kvs))) (q : R (Iti p o kvs) H) : RunI R (.ref p) H := ⟨p, o, kvs, rfl, h, q⟩
theorem runL {R : It → Hp → Prop} {xs : List V} (h : SqL K H p xs) (q : R (Itl K p) H) : RunL K R (.ref p) H := ⟨p, rfl, ⟨xs, h⟩, q⟩
theorem runT {R : It → Hp → Prop} {xs : List V} (h : SqT K H p xs) (q : R (Itt K p) H) : RunT K R (.ref p) H := ⟨p, rfl, ⟨xs, h⟩, q⟩
theorem runR {R : It → Hp → Prop} {j : Int} (h : -(2 ^ 62) ≤ j ∧ j < 2 ^ 62) (q : R (Itr 0 j.toNat) H) : RunR R [.int j] H := ⟨j, rfl, h.1, h.2, q⟩
theorem lc_by {J : It} {m : Nat} {G : Hp → Prop} {Y : Nat → Hp → V → Hp → Prop} (w : L2.Walk J m G Y) (Pv : Nat → Hp → Prop) (h0 : Pv 0 (upd H D (.lst []))) (hG : ∀ i H, i ≤ m → Pv i H → G H)
    (hs : ∀ i x H H', i < m → Pv i H → Y i H x H' → g x (wipe σ vs) H' fun σ2 H2 => wipe σ2 vs = wipe σ vs ∧ tt σ2 H2 fun b H3 =>
      if b = true then te σ2 H3 fun y H4 => ∃ acc, H4 D = some (.lst acc) ∧ acc.length < sizeLine ∧ Pv (i + 1) (upd H4 D (.lst (acc ++ [y]))) else Pv (i + 1) H3) (hd : ∀ H, Pv m H → Qd H) : LcP J g tt te vs σ D Qd H := L2.lc_it w Pv h0 hG hs hd
theorem dc_by {J : It} {m : Nat} {G : Hp → Prop} {Y : Nat → Hp → V → Hp → Prop} (w : L2.Walk J m G Y) (Pv : Nat → Hp → Prop) (h0 : Pv 0 (upd H D (.dK []))) (hG : ∀ i H, i ≤ m → Pv i H → G H)
    (hs : ∀ i x H H', i < m → Pv i H → Y i H x H' → g x (wipe σ vs) H' fun σ2 H2 => wipe σ2 vs = wipe σ vs ∧ tt σ2 H2 fun b H3 =>
      if b = true then tk σ2 H3 fun y H4 => tv σ2 H4 fun z H5 => ∃ kvs k, y = kV k ∧ H5 D = some (.dK kvs) ∧ kvs.length < sizeLine ∧ Pv (i + 1) (upd H5 D (.dK (putK kvs k z))) else Pv (i + 1) H3) (hd : ∀ H, Pv m H → Qd H) : DcP J g tt tk tv vs σ D Qd H := by
  refine ⟨fun i k H => k = m - i ∧ i ≤ m ∧ Pv i H, ⟨m, by simp, Nat.zero_le _, h0⟩, ?_⟩
  rintro i k H ⟨rfl, hi, hp⟩
  have q := hG i H hi hp
  by_cases hlt : i < m
  · exact .inr ⟨w.goes i H hlt q, Pv (i + 1), fun H' p' => ⟨m - (i + 1), by omega, rfl, hlt, p'⟩, fun x H' y => hs i x H H' hlt hp (w.yields i H x H' hlt q y)⟩
  · have e : i = m := by omega
    subst e
    exact .inl ⟨w.stops H q, hd H hp⟩
theorem lcK {o : Obj} {kvs : List (Key × V)} (Pv : Nat → Hp → Prop) (h0 : Pv 0 (upd H D (.lst []))) (hG : ∀ i H, i ≤ kvs.length → Pv i H → H p = some (.frz o (.dK kvs)))
    (hs : ∀ i k v H, kvs[i]? = some (k, v) → Pv i H → g (kV k) (wipe σ vs) H fun σ2 H2 => wipe σ2 vs = wipe σ vs ∧ tt σ2 H2 fun b H3 =>
      if b = true then te σ2 H3 fun y H4 => ∃ acc, H4 D = some (.lst acc) ∧ acc.length < sizeLine ∧ Pv (i + 1) (upd H4 D (.lst (acc ++ [y]))) else Pv (i + 1) H3) (hd : ∀ H, Pv kvs.length H → Qd H) : LcP (Itk p o kvs) g tt te vs σ D Qd H :=
  lc_by walk_keys Pv h0 hG (fun i x H H' _ hp y => by obtain ⟨rfl, k, v, e, rfl⟩ := y; exact hs i k v _ e hp) hd
theorem lcL {xs : List V} (Pv : Nat → Hp → Prop) (h0 : Pv 0 (upd H D (.lst []))) (hG : ∀ i H, i ≤ xs.length → Pv i H → SqL K H p xs)
    (hs : ∀ i x H, xs[i]? = some x → Pv i H → g x (wipe σ vs) H fun σ2 H2 => wipe σ2 vs = wipe σ vs ∧ tt σ2 H2 fun b H3 =>
      if b = true then te σ2 H3 fun y H4 => ∃ acc, H4 D = some (.lst acc) ∧ acc.length < sizeLine ∧ Pv (i + 1) (upd H4 D (.lst (acc ++ [y]))) else Pv (i + 1) H3) (hd : ∀ H, Pv xs.length H → Qd H) : LcP (Itl K p) g tt te vs σ D Qd H :=
  lc_by walk_list Pv h0 hG (fun i x H H' _ hp y => by obtain ⟨rfl, e⟩ := y; exact hs i x _ e hp) hd
theorem lcT {xs : List V} (Pv : Nat → Hp → Prop) (h0 : Pv 0 (upd H D (.lst []))) (hG : ∀ i H, i ≤ xs.length → Pv i H → SqT K H p xs)
    (hs : ∀ i x H, xs[i]? = some x → Pv i H → g x (wipe σ vs) H fun σ2 H2 => wipe σ2 vs = wipe σ vs ∧ tt σ2 H2 fun b H3 =>
      if b = true then te σ2 H3 fun y H4 => ∃ acc, H4 D = some (.lst acc) ∧ acc.length < sizeLine ∧ Pv (i + 1) (upd H4 D (.lst (acc ++ [y]))) else Pv (i + 1) H3) (hd : ∀ H, Pv xs.length H → Qd H) : LcP (Itt K p) g tt te vs σ D Qd H :=
  lc_by walk_tup Pv h0 hG (fun i x H H' _ hp y => by obtain ⟨rfl, e⟩ := y; exact hs i x _ e hp) hd
theorem dcK {o : Obj} {kvs : List (Key × V)} (Pv : Nat → Hp → Prop) (h0 : Pv 0 (upd H D (.dK []))) (hG : ∀ i H, i ≤ kvs.length → Pv i H → H p = some (.frz o (.dK kvs)))
    (hs : ∀ i k v H, kvs[i]? = some (k, v) → Pv i H → g (kV k) (wipe σ vs) H fun σ2 H2 => wipe σ2 vs = wipe σ vs ∧ tt σ2 H2 fun b H3 =>
      if b = true then tk σ2 H3 fun y H4 => tv σ2 H4 fun z H5 => ∃ kvs k, y = kV k ∧ H5 D = some (.dK kvs) ∧ kvs.length < sizeLine ∧ Pv (i + 1) (upd H5 D (.dK (putK kvs k z))) else Pv (i + 1) H3) (hd : ∀ H, Pv kvs.length H → Qd H) : DcP (Itk p o kvs) g tt tk tv vs σ D Qd H :=
  dc_by walk_keys Pv h0 hG (fun i x H H' _ hp y => by obtain ⟨rfl, k, v, e, rfl⟩ := y; exact hs i k v _ e hp) hd
theorem dcL {xs : List V} (Pv : Nat → Hp → Prop) (h0 : Pv 0 (upd H D (.dK []))) (hG : ∀ i H, i ≤ xs.length → Pv i H → SqL K H p xs)
    (hs : ∀ i x H, xs[i]? = some x → Pv i H → g x (wipe σ vs) H fun σ2 H2 => wipe σ2 vs = wipe σ vs ∧ tt σ2 H2 fun b H3 =>
      if b = true then tk σ2 H3 fun y H4 => tv σ2 H4 fun z H5 => ∃ kvs k, y = kV k ∧ H5 D = some (.dK kvs) ∧ kvs.length < sizeLine ∧ Pv (i + 1) (upd H5 D (.dK (putK kvs k z))) else Pv (i + 1) H3) (hd : ∀ H, Pv xs.length H → Qd H) : DcP (Itl K p) g tt tk tv vs σ D Qd H :=
  dc_by walk_list Pv h0 hG (fun i x H H' _ hp y => by obtain ⟨rfl, e⟩ := y; exact hs i x _ e hp) hd
theorem dcI {o : Obj} {kvs : List (Key × V)} (Pv : Nat → Hp → Prop) (h0 : Pv 0 (upd H D (.dK []))) (hG : ∀ i H, i ≤ kvs.length → Pv i H → H p = some (.frz o (.dK kvs)))
    (hs : ∀ i k v H T, kvs[i]? = some (k, v) → Pv i H → H T = none → g (.ref T) (wipe σ vs) (upd H T (.tup [kV k, v])) fun σ2 H2 => wipe σ2 vs = wipe σ vs ∧ tt σ2 H2 fun b H3 =>
      if b = true then tk σ2 H3 fun y H4 => tv σ2 H4 fun z H5 => ∃ kvs k, y = kV k ∧ H5 D = some (.dK kvs) ∧ kvs.length < sizeLine ∧ Pv (i + 1) (upd H5 D (.dK (putK kvs k z))) else Pv (i + 1) H3) (hd : ∀ H, Pv kvs.length H → Qd H) : DcP (Iti p o kvs) g tt tk tv vs σ D Qd H :=
  dc_by walk_items Pv h0 hG (fun i x H H' _ hp y => by
    obtain ⟨T, k, v, rfl, hT, rfl, e1, e2⟩ := y
    dsimp only at e1 e2
    cases e : kvs[i]? with
    | none => rw [e] at e1; cases e1
    | some kv =>
      rw [e] at e1 e2
      have e3 : kV kv.1 = k := Option.some.inj e1
      have e4 : kv.2 = v := Option.some.inj e2
      subst e3 e4
      exact hs i kv.1 kv.2 _ T e hp hT) hd
/-- a dict is held while it is walked -/
theorem x_lock {d : Addr} {u : HO} (h : H d = some u) (hm : Mut (some u)) (q : ∀ od, t ⟨fun σ' H' => H' d = some (.frz od u) ∧ n σ' (upd H' d u), fun v H' => H' d = some (.frz od u) ∧ r v (upd H' d u), fun σ' H' => H' d = some (.frz od u) ∧ b σ' (upd H' d u), fun σ' H' => H' d = some (.frz od u) ∧ c σ' (upd H' d u)⟩ σ (upd H d (.frz od u))) :
    tLock t ⟨n, r, b, c⟩ σ H := ⟨d, u, h, hm, q⟩
theorem x_lockE {d : Addr} {u : HO} (h : H d = some u) (hm : Mut (some u)) (q : ∀ od, te σ (upd H d (.frz od u)) fun v H' => H' d = some (.frz od u) ∧ Q v (upd H' d u)) : tLockE te σ H Q := ⟨d, u, h, hm, q⟩
/-! ### dicts -/
def rGetA (x y : V) (H : Hp) (Q : VK) : Prop := ∃ a v, x = .ref a ∧ DGet H a y (some v) ∧ Q v H
def rDinA (y x : V) (H : Hp) (Q : VK) : Prop := ∃ a o, x = .ref a ∧ DGet H a y o ∧ Q (.bl o.isSome) H
def rDninA (y x : V) (H : Hp) (Q : VK) : Prop := ∃ a o, x = .ref a ∧ DGet H a y o ∧ Q (.bl (!o.isSome)) H
def rDputA (x y v : V) (H : Hp) (N : Hp → Prop) : Prop := ∃ a H4, x = .ref a ∧ DPut H a y v H4 ∧ N H4
variable {td ty : TE} {x y v : V}
theorem x_dget (h : td σ H fun x H1 => ty σ H1 fun y H2 => rGetA x y H2 Q) : tDGet td ty σ H Q := h
theorem x_din (h : ty σ H fun y H1 => td σ H1 fun x H2 => rDinA y x H2 Q) : tDIn ty td σ H Q := h
theorem x_dnin (h : ty σ H fun y H1 => td σ H1 fun x H2 => rDninA y x H2 Q) : tDNotIn ty td σ H Q := h
theorem x_dput (h : tv σ H fun v H1 => td σ H1 fun x H2 => ty σ H2 fun y H3 => rDputA x y v H3 fun H4 => n σ H4) : sDPut td ty tv ⟨n, r, b, c⟩ σ H := h
theorem x_getS {kvs : List (Key × V)} {z : Str} (h : Rd H p (.dK kvs)) (e : valV kvs (Sum.inr z : Key) = some v) (q : Q v H) : rGetA (.ref p) (.str z) H Q := ⟨p, v, rfl, .inl ⟨kvs, Sum.inr z, h, rfl, e.symm⟩, q⟩
theorem x_dinS {kvs : List (Key × V)} {z : Str} (h : Rd H p (.dK kvs)) (q : Q (.bl (valV kvs (Sum.inr z : Key)).isSome) H) : rDinA (.str z) (.ref p) H Q := ⟨p, _, rfl, .inl ⟨kvs, Sum.inr z, h, rfl, rfl⟩, q⟩
theorem x_dninS {kvs : List (Key × V)} {z : Str} (h : Rd H p (.dK kvs)) (q : Q (.bl (!(valV kvs (Sum.inr z : Key)).isSome)) H) : rDninA (.str z) (.ref p) H Q := ⟨p, _, rfl, .inl ⟨kvs, Sum.inr z, h, rfl, rfl⟩, q⟩
theorem x_putS {kvs : List (Key × V)} {z : Str} {N : Hp → Prop} (h : H p = some (.dK kvs)) (hl : kvs.length < sizeLine) (q : N (upd H p (.dK (putK kvs (Sum.inr z : Key) v)))) : rDputA (.ref p) (.str z) v H N :=
  ⟨p, _, rfl, .inl ⟨kvs, Sum.inr z, h, rfl, hl, rfl⟩, q⟩
theorem x_newK (h : ∀ p, H p = none → Q (.ref p) (upd H p (.dK []))) : tDNewK σ H Q := h
end
end Ox
namespace Ox
open PySem PySem.Spec PyProof.Rows L2
theorem valV_at {kvs : List (Key × V)} (hn : (kvs.map (·.1)).Nodup) {i : Nat} {k : Key} {v : V} (h : kvs[i]? = some (k, v)) : valV kvs k = some v := by
  induction kvs generalizing i with
  | nil => cases h
  | cons p r ih =>
    have hn2 : (p.1 :: r.map (·.1)).Nodup := hn
    obtain ⟨h1, h2⟩ := List.nodup_cons.mp hn2
    unfold valV
    rw [List.find?_cons]
    cases i with
    | zero =>
      have e : p = (k, v) := Option.some.inj h
      subst e
      simp
    | succ i =>
      have h3 : r[i]? = some (k, v) := h
      have ne : ¬ p.1 = k := fun e => h1 (by rw [e]; exact List.mem_map.mpr ⟨(k, v), List.mem_of_getElem? h3, rfl⟩)
      rw [decide_eq_false ne]
      exact ih h2 h3
theorem valV_mem {kvs : List (Key × V)} {k : Key} {v : V} (h : valV kvs k = some v) : (k, v) ∈ kvs := by
  unfold valV at h
  cases e : kvs.find? (fun kv => decide (kv.1 = k)) with
  | none => rw [e] at h; cases h
  | some p =>
    rw [e] at h
    have h1 : p.2 = v := Option.some.inj h
    have h2 := List.find?_some e
    have h3 : p.1 = k := of_decide_eq_true h2
    rw [← h1, ← h3]
    exact List.mem_of_find?_eq_some e
/-- a dict with text keys -/
abbrev strK {α : Type} (f : α → V) (l : List (Str × α)) : List (Key × V) := l.map fun p => (Sum.inr p.1, f p.2)
theorem strK_at {α : Type} {f : α → V} {l : List (Str × α)} {i : Nat} {k : Key} {v : V} (h : (strK f l)[i]? = some (k, v)) : ∃ z x, k = Sum.inr z ∧ v = f x ∧ l[i]? = some (z, x) := by
  rw [List.getElem?_map] at h
  cases e : l[i]? with
  | none => rw [e] at h; cases h
  | some p =>
    rw [e] at h
    have e1 : ((Sum.inr p.1 : Key), f p.2) = (k, v) := Option.some.inj h
    injection e1 with e2 e3
    exact ⟨p.1, p.2, e2.symm, e3.symm, rfl⟩
theorem strK_nd {α : Type} {f : α → V} {l : List (Str × α)} (h : (l.map (·.1)).Nodup) : ((strK f l).map (·.1)).Nodup := by
  rw [List.map_map]
  have e : ((fun x : Key × V => x.1) ∘ fun p : Str × α => ((Sum.inr p.1 : Key), f p.2)) = (fun p : Str × α => (Sum.inr p.1 : Key)) := rfl
  rw [e]
  have e2 : l.map (fun p : Str × α => (Sum.inr p.1 : Key)) = (l.map (·.1)).map Sum.inr := by rw [List.map_map]; rfl
  rw [e2]
  exact List.pairwise_map.mpr (List.Pairwise.imp (fun {a b} hab e => hab (Sum.inr.inj e)) h)
theorem strK_val {α : Type} {f : α → V} {l : List (Str × α)} (h : (l.map (·.1)).Nodup) {i : Nat} {z : Str} {x : α} (e : l[i]? = some (z, x)) : valV (strK f l) (Sum.inr z : Key) = some (f x) :=
  valV_at (strK_nd h) (i := i) (by rw [List.getElem?_map, e]; rfl)
theorem strK_get {α : Type} {f : α → V} {l : List (Str × α)} {z : Str} {v : V} (h : valV (strK f l) (Sum.inr z : Key) = some v) : ∃ x, v = f x ∧ (z, x) ∈ l := by
  obtain ⟨p, hp, e⟩ := List.mem_map.mp (valV_mem h)
  injection e with e1 e2
  injection e1 with e3
  exact ⟨p.2, e2.symm, by rw [← e3]; exact hp⟩
theorem take_succ_get {α : Type} {l : List α} {i : Nat} {x : α} (h : l[i]? = some x) : l.take (i + 1) = l.take i ++ [x] := by
  rw [List.take_succ, h]
  rfl
end Ox
namespace Ox
open PySem PySem.Spec PyProof.Rows L2
/-- sorted(d), d a dict with text keys, of any length that fits the line -/
def rSortDA : List V → Hp → VK → Prop := fun xs H Q => ∃ (d : Addr) (kvs : List (Key × V)) (ks : List Str), xs = [.ref d] ∧ Rd H d (.dK kvs) ∧ kvs.map (·.1) = ks.map Sum.inr ∧ ks.length ≤ 10000 ∧
  ∀ ys p, ys.Perm ks → sortedS ys = true → H p = none → Q (.ref p) (upd H p (.lst (ys.map V.str)))
theorem call_sortedDA {X : Cx} (calm : X.calm = true) : CallR X (.builtin "sorted") rSortDA := by
  intro pn st σ H args us Q I ra hq
  obtain ⟨d, kvs, ks, rfl, rd, ek, len, fin⟩ := hq
  obtain ⟨ud, rfl, rud⟩ := vals1 ra
  cases rud
  obtain ⟨_, low, rows, rowsR, isd⟩ := dk_rd I.hok rd
  obtain ⟨epoch, atd⟩ := isd.dictAt
  have keyE : rows.map Prod.fst = ks.map Sum.inr := Eq.trans rowsR.keys.symm ek
  have lenE : rows.length = ks.length := by
    have t := congrArg List.length keyE
    simpa using t
  have line : ks.length ≤ sizeLine := by rw [sizeLine_eq]; omega
  refine Calls.call_function_entry kind_sorted plain_sorted entry_sorted (args_sorted1 _) ?_
  unfold Builtin.«sorted»
  refine wpAny_bind (m := checkCount "sorted" 1 1 _) (wpAny_pure (wpAny_bind (PySem.W.kdu_collect (A := X.A.in1) (PySem.W.kdl_dict (knd := mixKind X.prog X.w) (kvs := rows) (ep := epoch) low) (I.ok.hd calm) atd (by rw [lenE]; exact line) fun h1 t1 got keep isgot => ?_)))
  have gotL : got.toList.length = ks.length := (Array.length_toList ..).trans (isgot.1.trans lenE)
  have texts : StrsAre got.toList ks := strs_at gotL fun j v ev => by
    obtain ⟨key, _, er, ki⟩ := isgot.2 j v (by rw [← Array.getElem?_toList]; exact ev)
    have ekj : (ks.map Sum.inr)[j]? = some key := by rw [← keyE, List.getElem?_map, er]; rfl
    rw [List.getElem?_map] at ekj
    cases ez : ks[j]? with
    | none => rw [ez] at ekj; cases ekj
    | some z =>
      rw [ez] at ekj
      cases ekj
      obtain ⟨t, et⟩ := Value.isStrOf_shape (x := z) (v := v) ki
      exact ⟨z, t, rfl, et⟩
  have J : Inv X pn σ H { st with heap := h1, toks := t1 } := I.kept keep
  refine wpAny_bind (wpAny_newList ?_ (by rw [gotL]; rw [sizeLine_eq] at line; exact line))
  have isl : (h1.push (seqObj "list" got.toList.toArray 0)).get? h1.objs.size = some (seqObj "list" got.toList.toArray 0) := Heap.get?_push_size _ rfl
  change wpAny _ _ _ _ _ { st with heap := h1.push (seqObj "list" got.toList.toArray 0), toks := t1 }
  refine wpAny_bind (wpAny_holding (wpAny_call_entry slot_list_sort ⟨_, isl, rfl⟩ entry_list_sort (list_sort_treeKAny (s := { st with heap := h1.push (seqObj "list" got.toList.toArray 0), toks := t1 }) strKind_oneLt isl texts.keysOf
    (fun a b c eq => keyKind_strs (by rw [← eq]; exact texts)) (by rw [gotL]; exact line) fun st2 pm so => ⟨_, rfl, ?_⟩) (args_list_sort _)))
  obtain ⟨ys, y1, y2, y3⟩ := sorted_out_str texts pm so
  obtain ⟨ep2, at2⟩ := sortedHeap_at (vs := got.toList) (out := (arrOf st2).map (·.2)) isl
  have ylen : (ys.map V.str).length ≤ sizeLine := by rw [List.length_map, y2.length_eq]; exact line
  have laid := fun kept => J.laid (t' := t1) kept (Nat.le_refl h1.objs.size) (show ObjOk X.prog X.w _ _ _ (.lst (ys.map V.str)) from ⟨ylen, ((arrOf st2).map (·.2)).toList, ep2, vals_of_strs y1, by rw [Array.toArray_toList]; exact at2⟩)
  refine wpAny_pure ⟨_, rfl, .ref h1.objs.size, _, laid fun b u eb => ?_, rfl, fin ys _ y2 y3 (J.hok.fresh (Nat.le_refl _))⟩
  have small := Heap.lt_size eb
  rw [sortedHeap_old (Nat.ne_of_lt small) (by rw [size_push']; exact Nat.lt_succ_of_lt small)]
  exact Heap.get?_push_of_some _ eb
theorem lt_one (a b : Nat) : (([a] : List Nat) < [b]) ↔ a < b := by
  rw [List.cons_lt_cons_iff]
  simp
section
variable {H : Hp} {Q : VK} {d : Nat} {s : Str}
theorem x_leL (c : Nat) (e : s = ⟨#[c]⟩) (q : Q (.bl (decide (c ≤ d))) H) : rStr2 (fun i j => !decide (j.cps.toList < i.cps.toList)) (.str s) (.str ⟨#[d]⟩) H Q := by
  subst e
  refine ⟨_, _, rfl, rfl, ?_⟩
  have h : (!decide ((⟨#[d]⟩ : Str).cps.toList < (⟨#[c]⟩ : Str).cps.toList)) = decide (c ≤ d) := by
    show (!decide ([d] < [c])) = _
    rw [show decide (([d] : List Nat) < [c]) = decide (d < c) from decide_eq_decide.mpr (lt_one d c)]
    by_cases z : d < c
    · have : ¬ c ≤ d := by omega
      simp [z, this]
    · have : c ≤ d := by omega
      simp [z, this]
  dsimp only
  rw [h]
  exact q
theorem x_leR (c : Nat) (e : s = ⟨#[c]⟩) (q : Q (.bl (decide (d ≤ c))) H) : rStr2 (fun i j => !decide (j.cps.toList < i.cps.toList)) (.str ⟨#[d]⟩) (.str s) H Q := by
  subst e
  refine ⟨_, _, rfl, rfl, ?_⟩
  have h : (!decide ((⟨#[c]⟩ : Str).cps.toList < (⟨#[d]⟩ : Str).cps.toList)) = decide (d ≤ c) := by
    show (!decide ([c] < [d])) = _
    rw [show decide (([c] : List Nat) < [d]) = decide (c < d) from decide_eq_decide.mpr (lt_one c d)]
    by_cases z : c < d
    · have : ¬ d ≤ c := by omega
      simp [z, this]
    · have : d ≤ c := by omega
      simp [z, this]
  dsimp only
  rw [h]
  exact q
end
theorem chr_a : ("a" : Str) = ⟨#[97]⟩ := by decide +kernel
theorem chr_z : ("z" : Str) = ⟨#[122]⟩ := by decide +kernel
theorem chr_0 : ("0" : Str) = ⟨#[48]⟩ := by decide +kernel
theorem chr_9 : ("9" : Str) = ⟨#[57]⟩ := by decide +kernel
end Ox
namespace Ox
open PySem PySem.Spec PyProof.Rows L2
/-! ### dicts with text keys as association lists -/
theorem strK_look {α : Type} {f : α → V} (l : List (Str × α)) (z : Str) : valV (strK f l) (Sum.inr z : Key) = (l.lookup z).map f := by
  induction l with
  | nil => rfl
  | cons p r ih =>
    show valV ((Sum.inr p.1, f p.2) :: strK f r) (Sum.inr z : Key) = _
    unfold valV
    rw [List.find?_cons, List.lookup_cons]
    by_cases e : p.1 = z
    · subst e
      simp
    · have e1 : ¬ (Sum.inr p.1 : Key) = Sum.inr z := fun q => e (Sum.inr.inj q)
      have e2 : (z == p.1) = false := by simpa using fun q : z = p.1 => e q.symm
      rw [decide_eq_false e1, e2]
      exact ih
/-- a store -/
def putL {α : Type} (l : List (Str × α)) (z : Str) (x : α) : List (Str × α) := if z ∈ l.map (·.1) then l.map (fun p => if p.1 = z then (p.1, x) else p) else l ++ [(z, x)]
theorem putL_new {α : Type} {l : List (Str × α)} {z : Str} (x : α) (h : z ∉ l.map (·.1)) : putL l z x = l ++ [(z, x)] := by
  unfold putL
  rw [if_neg h]
theorem putL_keys {α : Type} {l : List (Str × α)} {z : Str} (x : α) (h : z ∈ l.map (·.1)) : (putL l z x).map (·.1) = l.map (·.1) := by
  unfold putL
  rw [if_pos h, List.map_map]
  refine List.map_congr_left fun p _ => ?_
  show (if p.1 = z then (p.1, x) else p).1 = p.1
  split <;> rfl
theorem putL_nd {α : Type} {l : List (Str × α)} {z : Str} (x : α) (h : (l.map (·.1)).Nodup) : ((putL l z x).map (·.1)).Nodup := by
  by_cases e : z ∈ l.map (·.1)
  · rw [putL_keys x e]
    exact h
  · rw [putL_new x e, List.map_append]
    exact List.nodup_append.mpr ⟨h, by simp, fun a ha b hb q => by
      rw [List.map_cons, List.map_nil, List.mem_singleton] at hb
      rw [q, hb] at ha
      exact e ha⟩
theorem putL_len {α : Type} (l : List (Str × α)) (z : Str) (x : α) : (putL l z x).length ≤ l.length + 1 := by
  unfold putL
  split <;> simp
theorem putL_mem {α : Type} {l : List (Str × α)} {z : Str} {x : α} {p : Str × α} (h : p ∈ putL l z x) : p = (z, x) ∨ (p ∈ l ∧ p.1 ≠ z) := by
  unfold putL at h
  by_cases e : z ∈ l.map (·.1)
  · rw [if_pos e] at h
    obtain ⟨q, hq, e2⟩ := List.mem_map.mp h
    by_cases eq : q.1 = z
    · rw [if_pos eq, eq] at e2
      exact .inl e2.symm
    · rw [if_neg eq] at e2
      rw [← e2]
      exact .inr ⟨hq, eq⟩
  · rw [if_neg e] at h
    rcases List.mem_append.mp h with h | h
    · exact .inr ⟨h, fun q => e (by rw [← q]; exact List.mem_map.mpr ⟨p, h, rfl⟩)⟩
    · exact .inl (List.mem_singleton.mp h)
theorem strK_put {α : Type} {f : α → V} (l : List (Str × α)) (z : Str) (x : α) : putK (strK f l) (Sum.inr z : Key) (f x) = strK f (putL l z x) := by
  have ha : ((strK f l).any fun kv => decide (kv.1 = (Sum.inr z : Key))) = decide (z ∈ l.map (·.1)) := by
    induction l with
    | nil => rfl
    | cons p r ih =>
      show ((decide ((Sum.inr p.1 : Key) = Sum.inr z)) || ((strK f r).any fun kv => decide (kv.1 = (Sum.inr z : Key)))) = decide (z ∈ p.1 :: r.map (·.1))
      rw [ih]
      by_cases e : p.1 = z
      · simp [e]
      · have e2 : ¬ z = p.1 := fun q => e q.symm
        simp [e, e2]
  unfold putK putL
  rw [ha]
  by_cases e : z ∈ l.map (·.1)
  · rw [if_pos (decide_eq_true e), if_pos e]
    show (List.map _ (List.map _ l)) = List.map _ (List.map _ l)
    rw [List.map_map, List.map_map]
    refine List.map_congr_left fun p _ => ?_
    show (if (Sum.inr p.1 : Key) = Sum.inr z then ((Sum.inr p.1 : Key), f x) else (Sum.inr p.1, f p.2)) = ((Sum.inr (if p.1 = z then (p.1, x) else p).1 : Key), f (if p.1 = z then (p.1, x) else p).2)
    by_cases h : p.1 = z
    · rw [if_pos h, if_pos (by rw [h])]
    · rw [if_neg h, if_neg (fun q => h (Sum.inr.inj q))]
  · rw [if_neg (by simp only [decide_eq_true_eq]; exact e), if_neg e]
    exact (List.map_append (l₁ := l) (l₂ := [(z, x)]) (f := fun p : Str × α => ((Sum.inr p.1 : Key), f p.2))).symm
theorem lookup_mem {α : Type} {l : List (Str × α)} {z : Str} {x : α} (h : l.lookup z = some x) : (z, x) ∈ l := by
  induction l with
  | nil => cases h
  | cons p r ih =>
    rw [List.lookup_cons] at h
    by_cases e : z = p.1
    · subst e
      rw [beq_self_eq_true] at h
      cases h
      exact List.mem_cons_self
    · have e2 : (z == p.1) = false := by simpa using e
      rw [e2] at h
      exact List.mem_cons_of_mem _ (ih h)
theorem lookup_of {α : Type} {l : List (Str × α)} (hn : (l.map (·.1)).Nodup) {z : Str} {x : α} (h : (z, x) ∈ l) : l.lookup z = some x := by
  induction l with
  | nil => cases h
  | cons p r ih =>
    obtain ⟨h1, h2⟩ := List.nodup_cons.mp (show (p.1 :: r.map (·.1)).Nodup from hn)
    rw [List.lookup_cons]
    rcases List.mem_cons.mp h with e | h
    · rw [← e]
      simp
    · have ne : ¬ z = p.1 := fun q => h1 (by rw [← q]; exact List.mem_map.mpr ⟨(z, x), h, rfl⟩)
      have e2 : (z == p.1) = false := by simpa using ne
      rw [e2]
      exact ih h2 h
theorem lookup_isSome {α : Type} {l : List (Str × α)} {z : Str} (h : z ∈ l.map (·.1)) : ∃ x, l.lookup z = some x := by
  induction l with
  | nil => cases h
  | cons p r ih =>
    rw [List.lookup_cons]
    by_cases e : z = p.1
    · subst e
      exact ⟨p.2, by simp⟩
    · have e2 : (z == p.1) = false := by simpa using e
      rw [e2]
      exact ih ((List.mem_cons.mp h).resolve_left e)
theorem lookup_none {α : Type} {l : List (Str × α)} {z : Str} (h : z ∉ l.map (·.1)) : l.lookup z = none := by
  cases e : l.lookup z with
  | none => rfl
  | some x => exact absurd (List.mem_map.mpr ⟨_, lookup_mem e, rfl⟩) h
theorem lookup_perm {α : Type} {l l' : List (Str × α)} (hp : l'.Perm l) (hn : (l.map (·.1)).Nodup) (z : Str) : l'.lookup z = l.lookup z := by
  have hn' : (l'.map (·.1)).Nodup := (List.Perm.nodup_iff (hp.map _)).mpr hn
  cases e : l.lookup z with
  | some x => exact lookup_of hn' (hp.mem_iff.mpr (lookup_mem e))
  | none =>
    cases e2 : l'.lookup z with
    | none => rfl
    | some x =>
      have := lookup_of hn (hp.mem_iff.mp (lookup_mem e2))
      rw [e] at this
      cases this
/-- the same table, its keys in another order -/
theorem table_perm {α : Type} {l : List (Str × α)} {ys : List Str} (hn : (l.map (·.1)).Nodup) (hp : ys.Perm (l.map (·.1))) (d : α) : (ys.map fun z => (z, (l.lookup z).getD d)).Perm l := by
  have h1 := hp.map fun z => (z, (l.lookup z).getD d)
  have h2 : (l.map (·.1)).map (fun z => (z, (l.lookup z).getD d)) = l := by
    rw [List.map_map]
    conv => rhs; rw [← List.map_id l]
    refine List.map_congr_left fun p hp => ?_
    show (p.1, (l.lookup p.1).getD d) = p
    rw [lookup_of hn (z := p.1) (x := p.2) hp]
    rfl
  rw [h2] at h1
  exact h1
section
variable {σ : L2.St} {H : Hp} {n : L2.St → Hp → Prop} {r : VK} {b c : L2.St → Hp → Prop} {ta tv : TE} {K : PySem.W.Frag}
def rSfA (K : PySem.W.Frag) (f : Str) (x y : V) (H : Hp) (N : Hp → Prop) : Prop := ∃ a C dx fs, x = .ref a ∧ H a = some (.ins C dx fs) ∧ Cls K C ∧ NoAttr K C f ∧ fs.length < 1000 ∧ N (upd H a (.ins C dx (putF f y fs)))
theorem x_sfld {f : Str} (h : tv σ H fun y H1 => ta σ H1 fun x H2 => rSfA K f x y H2 fun H3 => n σ H3) : sFld K ta tv f ⟨n, r, b, c⟩ σ H := h
theorem x_sf {a C dx : Addr} {fs : List (Str × V)} {f : Str} {y : V} {N : Hp → Prop} (hc : Cls K C) (hn : NoAttr K C f) (h : H a = some (.ins C dx fs)) (hl : fs.length < 1000) (q : N (upd H a (.ins C dx (putF f y fs)))) : rSfA K f (.ref a) y H N :=
  ⟨a, C, dx, fs, rfl, h, hc, hn, hl, q⟩
end
end Ox
namespace Ox
open PySem PySem.Spec PyProof.Rows L2
/-! ### rules with the written part told by a letter (for a comprehension's block) -/
section
variable {X : Cx} {K : PySem.W.Frag}
theorem ix_listK (e : X.K = K := by rfl) : IxR X (rIxL K) := e ▸ ix_list
theorem ix_tupK (e : X.K = K := by rfl) : IxR X (rIxT K) := e ▸ ix_tup
theorem call_lenAK (e : X.K = K := by rfl) : CallR X (.builtin "len") (rLenA K) := e ▸ call_lenA
theorem op_in_seqK (e : X.K = K := by rfl) : OpR X (compareOp .In) (rIn K false) := e ▸ op_in_seq
theorem op_notIn_seqK (e : X.K = K := by rfl) : OpR X (compareOp .NotIn) (rIn K true) := e ▸ op_notIn_seq
theorem call_isiK (e : X.K = K := by rfl) : CallR X (.builtin "isinstance") (rIsi K) := e ▸ call_isi
theorem call_listAK (e : X.K = K := by rfl) : CallR X (.type "list") (rListA K) := e ▸ call_listA
theorem call_tupleAK (e : X.K = K := by rfl) : CallR X (.type "tuple") (rTupleA K) := e ▸ call_tupleA
theorem sl_listK (e : X.K = K := by rfl) : SlR X (rSlL K) := e ▸ sl_list
theorem pe_fldK {o : Expr} {f : Str} {pos : Pos} {ta : TE} (he : PE X o ta) (hb : attributeBase o f X.env (eval o X.env) = eval o X.env) (e : X.K = K := by rfl) : PE X (.Attribute o f pos) (tFld K ta f) := e ▸ pe_fld he hb
end
end Ox
namespace Ox
open PySem PySem.Spec PyProof.Rows L2
theorem pg_tupK {X : Cx} {K : PySem.W.Frag} {es : List Expr} {k : Nat} {pos : Pos} {t : TGs} {n : Nat} (hc : X.calm = true) (h : PGs X es t) (hn : (assignEach es X.env).length = n := by rfl) (hst : (assignEach es X.env).findIdx? (·.1) = none := by rfl)
    (e : X.K = K := by rfl) : PG X (.Tuple es k pos) (gTup K n t) := e ▸ pg_tup hc h hn hst
end Ox
namespace Ox
open PySem PySem.Spec PyProof.Rows L2
theorem putL_old {α : Type} {l : List (Str × α)} {z : Str} (x : α) (h : z ∈ l.map (·.1)) : putL l z x = l.map fun p => if p.1 = z then (p.1, x) else p := by
  unfold putL
  rw [if_pos h]
theorem putL_putL {α : Type} (l : List (Str × α)) (z : Str) (a b : α) : putL (putL l z a) z b = putL l z b := by
  by_cases e : z ∈ l.map (·.1)
  · have e2 : z ∈ (putL l z a).map (·.1) := by rw [putL_keys a e]; exact e
    rw [putL_old b e2, putL_old b e, putL_old a e, List.map_map]
    refine List.map_congr_left fun p _ => ?_
    show (if (if p.1 = z then (p.1, a) else p).1 = z then ((if p.1 = z then (p.1, a) else p).1, b) else (if p.1 = z then (p.1, a) else p)) = _
    by_cases h : p.1 = z
    · simp [h]
    · simp [h]
  · have e2 : z ∈ (putL l z a).map (·.1) := by rw [putL_new a e]; simp
    rw [putL_old b e2, putL_new a e, putL_new b e, List.map_append]
    have h4 : (l.map fun p => if p.1 = z then (p.1, b) else p) = l := by
      conv => rhs; rw [← List.map_id l]
      refine List.map_congr_left fun p hp => ?_
      have : ¬ p.1 = z := fun q => e (by rw [← q]; exact List.mem_map.mpr ⟨p, hp, rfl⟩)
      rw [if_neg this]
      rfl
    rw [h4]
    simp
end Ox

/-! Own layer, second part: list(d.values()), kinds of values, own classes. -/
namespace Ox
open PySem PySem.Spec PyProof.Rows L2
/-! ### list(d.values()), list(d) -/
def rListVA (x : V) (H : Hp) (Q : VK) : Prop := ∃ (d : Addr) (kvs : List (Key × V)), x = .ref d ∧ Rd H d (.dK kvs) ∧ ∀ p, H p = none → Q (.ref p) (upd H p (.lst (kvs.map Prod.snd)))
def tListVA (te : TE) : TE := fun σ H Q => te σ H fun x H1 => rListVA x H1 Q
section
variable {X : Cx} {e : Expr} {te : TE} {p apos cpos pos : Pos}
theorem pe_listV (hc : X.calm = true) (he : PE X e te) (hg : Gl X "list") (hm : X.mg "list" = none) (hv : bootBuiltins "list" = some (.type "list") := by decide +kernel)
    (hbase : attributeBase e "values" X.env (eval e X.env) = eval e X.env := by rfl)
    (hline : (apos.endLine == cpos.line) = true := by rfl)
    (hs : starEach [.Call (.Attribute e "values" apos) [] [] cpos] X.env = (false, eval (.Call (.Attribute e "values" apos) [] [] cpos) X.env) :: starEach [] X.env := by rfl) :
    PE X (.Call (.Name "list" p) [.Call (.Attribute e "values" apos) [] [] cpos] [] pos) (tListVA te) := ⟨fun pins s σ H Q I hq => by
  refine wpAny_Call_Name_kw (ld_blt I hg hm hv (PyProof.Rows.callWith_type1 ?_ hs rfl))
  rw [hs]
  show wpAny _ _ (spliced ((false, eval (.Call (.Attribute e "values" apos) [] [] cpos) X.env) :: backTo pos (starEach [] X.env))) _ _ _
  refine Calls.spliced_cons (wpAny_Call_method (T := "dict") (id := "dict.values") hbase rfl hline F.plainAttrs_dict F.slot_dict_values F.type_dict_values ?_)
  refine thn (he.run pins s σ H _ I hq) fun u s1 ⟨x, H1, I1, rx, d, kvs, ex, hd, q⟩ => ?_
  subst ex
  obtain rfl : u = Value.ref d := rx
  obtain ⟨hz, hs0, ws, kv, hdo⟩ := (show ObjOk X.prog X.w H1 s1.heap d (.dK kvs) from hd.ok I1.hok)
  obtain ⟨ep, hat⟩ := hdo.dictAt
  have lk : kvs.length = ws.length := Paired.length kv
  have I2 : Inv X pins σ H1 { s1 with heap := s1.heap.push { cls := .type "dict_values", data := .fields #[.ref d] } } := I1.kept fun b ob q => Heap.get?_push_of_some _ q
  refine ⟨hdo.typeIs, hdo.mapOf.noDict, ?_⟩
  show wpAny _ _ (callWith cpos (.builtin "dict.values") [.ref d] [] []) _ X.xe s1
  refine method_meetsIn F.slot_dict_values F.entry_dict_values rfl (PySem.evalArgs_none ⟨rfl, hdo.typeIs, F.args_dict_values_1 _, _, meets_dict_values (mixKind X.prog X.w) d hs0, ⟨ws, hdo⟩, Calls.spliced_nil ?_⟩)
  refine PySem.W.kdl_call (PySem.W.kdl_values (knd := mixKind X.prog X.w) (kvs := ws) (ep := ep)) (I1.ok.hd hc) ⟨⟨_, Heap.get?_push_size _ rfl, rfl, rfl⟩, hat.push _⟩ (by omega) fun h' tk acc c hk hS hacc => ?_
  refine ⟨.ref _, upd H1 _ (.lst (kvs.map Prod.snd)), I2.laid hk (Nat.le_refl _) (show ObjOk X.prog X.w _ _ _ (.lst (kvs.map Prod.snd)) from ⟨by rw [List.length_map]; exact hz, acc.toList, c, ?_, by rw [Array.toArray_toList]; exact hS⟩), rfl, q _ (I2.hok.fresh (Nat.le_refl _))⟩
  have el : acc.toList.length = acc.size := by simp
  refine vals_of_at (by rw [List.length_map, el, hacc.1, lk]) fun j x w h1 h2 => ?_
  obtain ⟨k, hky⟩ := hacc.2 j w (by rw [← Array.getElem?_toList]; exact h2)
  rw [List.getElem?_map] at h1
  cases e2 : kvs[j]? with
  | none => rw [e2] at h1; cases h1
  | some kvj =>
    rw [e2] at h1
    have h3 : kvj.2 = x := Option.some.inj h1
    obtain ⟨y, hy, _, ry⟩ := LiI.paired_get kv e2
    rw [hky] at hy
    cases hy
    rw [← h3]
    exact ry⟩
end
theorem x_listV {σ : L2.St} {H : Hp} {Q : VK} {te : TE} (h : te σ H fun x H1 => rListVA x H1 Q) : tListVA te σ H Q := h
theorem x_listv {H : Hp} {Q : VK} {d : Addr} {kvs : List (Key × V)} (h : Rd H d (.dK kvs)) (q : ∀ p, H p = none → Q (.ref p) (upd H p (.lst (kvs.map Prod.snd)))) : rListVA (.ref d) H Q := ⟨d, kvs, rfl, h, q⟩
theorem x_listD {H : Hp} {Q : VK} {d : Addr} {kvs : List (Key × V)} (h : H d = some (.dK kvs)) (q : ∀ p, H p = none → Q (.ref p) (upd H p (.lst (kvs.map fun kv => kV kv.1)))) : rListD [.ref d] H Q := ⟨d, kvs, rfl, h, q⟩
/-! ### kinds of values -/
inductive Kn where
  | non | bl | int | str | lst | tup | dict
  deriving DecidableEq
def Kn.ty : Kn → String
  | .non => "NoneType" | .bl => "bool" | .int => "int" | .str => "str" | .lst => "list" | .tup => "tuple" | .dict => "dict"
/-- x is of the kind -/
inductive Kd (K : PySem.W.Frag) (H : Hp) : V → Kn → Prop where
  | non : Kd K H .non .non
  | bl (b : Bool) : Kd K H (.bl b) .bl
  | int (i : Int) : Kd K H (.int i) .int
  | str (z : Str) : Kd K H (.str z) .str
  | lst {a : Addr} {xs : List V} (h : SqL K H a xs) : Kd K H (.ref a) .lst
  | tup {a : Addr} {xs : List V} (h : SqT K H a xs) : Kd K H (.ref a) .tup
  | dict {a : Addr} {kvs : List (Key × V)} (h : Rd H a (.dK kvs)) : Kd K H (.ref a) .dict
theorem Kd.tyx {K : PySem.W.Frag} {H : Hp} {x : V} {k : Kn} (h : Kd K H x k) : TyX K H x (.type k.ty) := by
  cases h with
  | non => exact .base .non
  | bl b => exact .base (.bl b)
  | int i => exact .base (.int i)
  | str z => exact .base (.str z)
  | lst h =>
    rcases h with (h | ⟨o, h⟩) | ⟨o, its, n, h1, h2, _⟩
    · exact .base (.lst h)
    · exact .base (.frz h)
    · exact .kList h1 h2
  | tup h =>
    rcases h with (h | ⟨o, h⟩) | ⟨o, its, n, h1, h2, _⟩
    · exact .base (.tup h)
    · exact .fTuple h
    · exact .kTuple h1 h2
  | dict h =>
    rcases h with h | ⟨o, h⟩
    · exact .base (.dK h)
    · exact .fDict h
def isB : Kn → Kn → Bool
  | .non, .non => true | .bl, .bl => true | .bl, .int => true | .int, .int => true | .str, .str => true | .lst, .lst => true | .tup, .tup => true | .dict, .dict => true
  | _, _ => false
theorem kitB_is : ∀ k T : Kn, T ≠ .non → kitB k.ty T.ty = some (isB k T) := by
  intro k T hT
  cases T with
  | non => exact absurd rfl hT
  | _ => cases k <;> decide +kernel
section
variable {K : PySem.W.Frag} {H : Hp} {Q : VK} {x : V} {k : Kn}
theorem x_isi (T : Kn) (h : Kd K H x k) (q : Q (.bl (isB k T)) H) (hT : T ≠ .non := by decide) : rIsi K [x, .ty T.ty] H Q := ⟨x, _, _, _, _, rfl, .ty _, h.tyx, kit_ty (kitB_is k T hT), q⟩
theorem x_isiInt (h : Kd K H x k) (q : Q (.bl (isB k .int)) H) : rIsi K [x, .ty "int"] H Q := x_isi .int h q
theorem x_isiBool (h : Kd K H x k) (q : Q (.bl (isB k .bl)) H) : rIsi K [x, .ty "bool"] H Q := x_isi .bl h q
theorem x_isiStr (h : Kd K H x k) (q : Q (.bl (isB k .str)) H) : rIsi K [x, .ty "str"] H Q := x_isi .str h q
theorem x_isiList (h : Kd K H x k) (q : Q (.bl (isB k .lst)) H) : rIsi K [x, .ty "list"] H Q := x_isi .lst h q
theorem x_isiTup (h : Kd K H x k) (q : Q (.bl (isB k .tup)) H) : rIsi K [x, .ty "tuple"] H Q := x_isi .tup h q
theorem x_isiDict (h : Kd K H x k) (q : Q (.bl (isB k .dict)) H) : rIsi K [x, .ty "dict"] H Q := x_isi .dict h q
end
/-! ### own classes: isinstance -/
/-- the class at C: what isinstance asks of it -/
structure Isc (K : PySem.W.Frag) (C : Addr) : Prop where
  cl : Cls K C
  ha : PySem.W.findIn K (.ref C) "__class__" = some (some (.builtin "object.__class__"))
  hn : PySem.W.specialIn K (.builtin "object.__class__") "__get__" = some (some (.builtin "getset_descriptor.__get__"))
  ht : PySem.W.takesIn K (.builtin "object.__class__") = some true
  hm : PySem.W.mroIn K C (.type "object") = some true
theorem x_isiOwn {K : PySem.W.Frag} {H : Hp} {Q : VK} {a C D dx : Addr} {fs : List (Str × V)} {b : Bool} (i : Isc K C) (h : H a = some (.ins C dx fs)) (hk : PySem.W.kitOne K (.ref C) (.ref D) = some b) (q : Q (.bl b) H) : rIsi K [.ref a, .ref D] H Q :=
  ⟨_, _, _, _, _, rfl, .own D, .base (.ins h i.cl i.ha i.hn i.ht i.hm), hk, q⟩
theorem iscB_ok {C : Str} {K : PySem.W.Frag} (h : iscB C K = true) : Isc K (He.ga K C) := by
  obtain ⟨h1, h⟩ := Bool.and_eq_true_iff.mp h
  obtain ⟨h2, h⟩ := Bool.and_eq_true_iff.mp h
  obtain ⟨h3, h⟩ := Bool.and_eq_true_iff.mp h
  obtain ⟨h4, h5⟩ := Bool.and_eq_true_iff.mp h
  exact ⟨He.cls_ok h1, He.eqO_ok h2, He.eqO_ok h3, of_decide_eq_true h4, of_decide_eq_true h5⟩
theorem kitF_ok {C D : Str} {b : Bool} {K : PySem.W.Frag} (h : kitF C D b K = true) : PySem.W.kitOne K (.ref (He.ga K C)) (.ref (He.ga K D)) = some b := of_decide_eq_true h
end Ox
namespace Ox
open PySem PySem.Spec PyProof.Rows L2
/-! ### == by an own __eq__, any answer -/
def rEqOwn (C : Addr) (sp : Sp) : R2 := fun x y H Q => ∃ a b dx dy fs gs, x = .ref a ∧ y = .ref b ∧ H a = some (.ins C dx fs) ∧ H b = some (.ins C dy gs) ∧ sp [.ref a, .ref b] H (fun v H' => ∃ k, v = .bl k ∧ Q (.bl k) H') E0
theorem op_eqOwn {X : Cx} {C : Addr} {k : Nat} {sp : Sp} {ps : List Str} (M : Met X.prog X.w X.K X.mg X.base C k "__eq__" ps sp) (hr : Room k X.A) : OpR X (compareOp .Eq) (rEqOwn C sp) := by
  obtain ⟨f, fd, mt, F, hb⟩ := M.ex
  intro pins s σ H x y u v Q I rx ry h
  obtain ⟨a, b, dx, dy, fs, gs, rfl, rfl, ha, hb2, hsp⟩ := h
  cases rx
  cases ry
  obtain ⟨mA, J, _⟩ := ins_get I.hok ha
  obtain ⟨mB, J2, _⟩ := ins_get I.hok hb2
  obtain ⟨od, J, _⟩ := J.look
  obtain ⟨od2, J2, _⟩ := J2.look
  obtain ⟨m, hF⟩ := I.fr
  show wpAny (model X.prog X.w) X.A (richCompare .Eq (.ref a) (.ref b)) (EP X pins σ Q) X.xe s
  refine PySem.W.cmp_K (op := .Eq) (tb := .ref C) hr.units0 hF I.ok.mod.kin J J2.type (by simp [PySem.W.notFirst]) mt.at_ mt.fn ?_
  have hl := F.len _ _ _ _ hsp
  have r2 : Vals [V.ref a, V.ref b] [Value.ref a, Value.ref b] := .cons rfl (.cons rfl .nil)
  refine wpAny_call (codeAny_mono (F.run X.A X.stack s H ⟨[.ref a, .ref b], []⟩ [.ref a, .ref b] [.ref a, .ref b] _ E0 hr I.env0 (by
    have := hb s [.ref a, .ref b] I.kIn (by simpa using hl)
    simpa using this) r2 hsp) fun r s' hq => ?_)
  cases r with
  | error e => exact hq.elim
  | ok fl =>
    cases fl with
    | ret w =>
      obtain ⟨z, H', I', rz, kk, ez, q⟩ := I.after hq
      subst ez
      cases rz
      exact ⟨.bl kk, H', I', rfl, q⟩
    | next => exact False.elim hq
    | brk => exact False.elim hq
    | cont => exact False.elim hq
theorem x_eqOwn {C : Addr} {sp : Sp} {H : Hp} {Q : VK} {a b dx dy : Addr} {fs gs : List (Str × V)} (ha : H a = some (.ins C dx fs)) (hb : H b = some (.ins C dy gs)) (h : sp [.ref a, .ref b] H (fun v H' => ∃ k, v = .bl k ∧ Q (.bl k) H') E0) : rEqOwn C sp (.ref a) (.ref b) H Q :=
  ⟨a, b, dx, dy, fs, gs, rfl, rfl, ha, hb, h⟩
end Ox
namespace Ox
open PySem PySem.Spec PyProof.Rows L2
theorem Kd.same {K : PySem.W.Frag} {H H' : Hp} {x : V} {k : Kn} (s : L2.Same H H') (h : Kd K H x k) : Kd K H' x k := by
  cases h with
  | non => exact .non
  | bl b => exact .bl b
  | int i => exact .int i
  | str z => exact .str z
  | lst h => exact .lst (s.seq h)
  | tup h => exact .tup (same_t s h)
  | dict h => exact .dict (same_rd s h)
/-- .. where one dict is held -/
theorem Kd.held {K : PySem.W.Frag} {H : Hp} {x : V} {k : Kn} {d : Addr} {o : Obj} {kvs : List (Key × V)} (hd : H d = some (.dK kvs)) (h : Kd K H x k) : Kd K (upd H d (.frz o (.dK kvs))) x k := by
  have rd : ∀ {a u}, Rd H a u → Rd (upd H d (.frz o (.dK kvs))) a u := fun {a u} h => by
    by_cases e : a = d
    · subst e
      rcases h with h | ⟨o', h⟩
      · rw [hd] at h
        cases h
        exact .inr ⟨o, upd_same⟩
      · rw [hd] at h
        cases h
    · rcases h with h | ⟨o', h⟩
      · exact .inl (by rw [upd_ne e]; exact h)
      · exact .inr ⟨o', by rw [upd_ne e]; exact h⟩
  cases h with
  | non => exact .non
  | bl b => exact .bl b
  | int i => exact .int i
  | str z => exact .str z
  | lst h => exact .lst (h.elim (fun h => .inl (rd h)) .inr)
  | tup h => exact .tup (h.elim (fun h => .inl (rd h)) .inr)
  | dict h => exact .dict (rd h)
end Ox
namespace Ox
open PySem PySem.Spec PyProof.Rows L2
section
variable {σ : L2.St} {H : Hp} {Q : VK} {ta : TE} {K : PySem.W.Frag} {C : Addr} {sp : Sp}
def rRevA (K : PySem.W.Frag) (x : V) (H : Hp) (Q : VK) : Prop := ∃ a xs, x = .ref a ∧ SqL K H a xs ∧ ∀ p, H p = none → Q (.ref p) (upd H p (.lst xs.reverse))
theorem x_revL (h : ta σ H fun x H1 => rRevA K x H1 Q) : tRevL K ta σ H Q := h
theorem x_rev {a : Addr} {xs : List V} (h : SqL K H a xs) (q : ∀ p, H p = none → Q (.ref p) (upd H p (.lst xs.reverse))) : rRevA K (.ref a) H Q := ⟨a, xs, rfl, h, q⟩
def rPropA (C : Addr) (sp : Sp) (x : V) (H : Hp) (Q : VK) : Prop := ∃ a dx fs, x = .ref a ∧ H a = some (.ins C dx fs) ∧ sp [.ref a] H Q E0
theorem x_prop (h : ta σ H fun x H1 => rPropA C sp x H1 Q) : tProp C sp [] E0 ta σ H Q := h
theorem x_prp {a dx : Addr} {fs : List (Str × V)} (h : H a = some (.ins C dx fs)) (q : sp [.ref a] H Q E0) : rPropA C sp (.ref a) H Q := ⟨a, dx, fs, rfl, h, q⟩
theorem x_putL {α : Type} {f : α → V} {l : List (Str × α)} {z : Str} {x : α} {v : V} {p : Addr} {N : Hp → Prop} (h : H p = some (.dK (strK f l))) (hl : l.length < 10000) (hv : v = f x) (q : N (upd H p (.dK (strK f (putL l z x))))) : rDputA (.ref p) (.str z) v H N := by
  subst hv
  refine x_putS h (sz_lt (by rw [List.length_map]; exact hl)) ?_
  rw [strK_put]
  exact q
theorem x_getL {α : Type} {f : α → V} {l : List (Str × α)} {z : Str} {x : α} {p : Addr} (h : Rd H p (.dK (strK f l))) (e : l.lookup z = some x) (q : Q (f x) H) : rGetA (.ref p) (.str z) H Q :=
  x_getS h (by rw [strK_look, e]; rfl) q
theorem x_inD {α : Type} {f : α → V} {l : List (Str × α)} {z : Str} {p : Addr} (h : Rd H p (.dK (strK f l))) (q : Q (.bl (l.lookup z).isSome) H) : rDinA (.str z) (.ref p) H Q := by
  refine x_dinS h ?_
  rw [strK_look, Option.isSome_map]
  exact q
theorem x_ninD {α : Type} {f : α → V} {l : List (Str × α)} {z : Str} {p : Addr} (h : Rd H p (.dK (strK f l))) (q : Q (.bl (!(l.lookup z).isSome)) H) : rDninA (.str z) (.ref p) H Q := by
  refine x_dninS h ?_
  rw [strK_look, Option.isSome_map]
  exact q
end
end Ox
namespace Ox
open PySem PySem.Spec PyProof.Rows L2
/-- a dict was held, then set free -/
theorem same_back {H H' : Hp} {d : Addr} {o : Obj} {u : HO} (hd : H d = some u) (s : L2.Same (upd H d (.frz o u)) H') : L2.Same H (upd H' d u) := fun b x e => by
  by_cases hb : b = d
  · subst hb
    rw [hd] at e
    rw [upd_same, e]
  · rw [upd_ne hb]
    exact s b x (by rw [upd_ne hb]; exact e)
theorem rd_held {H : Hp} {d n : Addr} {o : Obj} {u x : HO} (hn : n ≠ d) (h : Rd H n x) : Rd (upd H d (.frz o u)) n x := by
  rcases h with h | ⟨o', h⟩
  · exact .inl (by rw [upd_ne hn]; exact h)
  · exact .inr ⟨o', by rw [upd_ne hn]; exact h⟩
theorem upd_id {H : Hp} {d : Addr} {u : HO} (h : H d = some u) : upd H d u = H := by
  funext b
  by_cases hb : b = d
  · subst hb; rw [upd_same, h]
  · rw [upd_ne hb]
/-! ### while x: -/
section
variable {tb : TS} {σ : L2.St} {H : Hp} {n : L2.St → Hp → Prop} {r : VK} {b k : L2.St → Hp → Prop} {i : Nat}
/-- W m: what holds ahead of the test, m goes down -/
theorem lpWv (W : Nat → L2.St → Hp → Prop) {m : Nat} (h0 : W m σ H) (hs : ∀ m σ H, W m σ H → ∃ z, σ[i]? = some (some (.bl z)) ∧
    if z = true then tb ⟨fun σ' H' => ∃ m', m' < m ∧ W m' σ' H', r, n, fun σ' H' => ∃ m', m' < m ∧ W m' σ' H'⟩ σ H else n σ H) : tWhile (tTest (tVar i)) tb ⟨n, r, b, k⟩ σ H := by
  refine ⟨W, ⟨m, h0⟩, fun m σ H h => ?_⟩
  obtain ⟨z, hz, q⟩ := hs m σ H h
  refine ⟨.bl z, hz, z, rfl, ?_⟩
  cases z with
  | true => exact ⟨fun σ' H' => ∃ m', m' < m ∧ W m' σ' H', fun _ _ h => h, q⟩
  | false => exact q
end
end Ox

/-! Own layer, third part: name = {k: v for ..}. -/
namespace Ox
open PySem PySem.Spec PyProof.Rows L2
section
variable {X : Cx}
theorem sw_trueD {kx vx : Expr} {gs : List Comprehension} {scope : Scope} {pos py : Pos} {y : Str} {l : Nat} {env : Env} (hk : env.scope.kind = .function) (hy : env.scope.names.lookup y = some .local) (hl : (py.line == pos.line) = true)
    (ha : (scope.names.any fun (n, k) => n == y && (k == .local || k == .cell)) = false) : swapsWith (.DictComp kx vx gs scope pos) (some (.Name y py)) l env = pure true := by
  have k1 : env.kindOf y = some .local := hy
  have k2 : env.blockKind = .function := by unfold Env.blockKind; rw [hk]; rfl
  unfold swapsWith; simp only [k2, k1, ha, Expr.pos, hl]; rfl
theorem ps_setDc {i : Nat} {y : Str} {py : Pos} {kx vx tg iter : Expr} {ifs : List Expr} {scope : Scope} {own : List (Str × Nat)} {pos spos : Pos} {wi : TI} {g : TG} {tt : TT} {tk tv : TE} (hc : X.calm = true) (hN : X.N.Nodup) (hy : X.N[i]? = some y) (hyl : X.env.scope.names.lookup y = some .local)
    (hsw : swapsWith (.DictComp kx vx [⟨tg, iter, ifs, 0⟩] scope pos) (some (.Name y py)) spos.line X.env = pure true) (hi : PI X tg iter wi) (ok : BlkOk X.N X.env.scope scope own)
    (hg : ∀ (s : Shared) (H : Hp) (C : Addr) (cl : List (Str × Addr)) (fp : List Addr), PG (X.blk s H scope (compEnvC scope cl C X.env) fp) tg g) (htt : ∀ (s : Shared) (H : Hp) (C : Addr) (cl : List (Str × Addr)) (fp : List Addr), PTs (X.blk s H scope (compEnvC scope cl C X.env) fp) ifs tt)
    (hkx : ∀ (s : Shared) (H : Hp) (C : Addr) (cl : List (Str × Addr)) (fp : List Addr), PE (X.blk s H scope (compEnvC scope cl C X.env) fp) kx tk) (hvx : ∀ (s : Shared) (H : Hp) (C : Addr) (cl : List (Str × Addr)) (fp : List Addr), PE (X.blk s H scope (compEnvC scope cl C X.env) fp) vx tv)
    (hs : ∀ x, foldedSetIterable iter X.env x = pure x := by intro _; rfl) :
    PS X (.Assign [.Name y py] (.DictComp kx vx [⟨tg, iter, ifs, 0⟩] scope pos) spos) (tAsg (tDc wi g tt tk tv (own.map (·.2))) (gName i)) := by
  constructor; intro pins s σ H D I h; rw [exec_Assign_Name_used _ _ _ _ hsw]; refine wpAny_bind (wpAny_standAt (wpAny_bind ?_))
  show wpAny _ X.A (do let _ ← comprehension (.DictComp kx vx [⟨tg, iter, ifs, 0⟩] scope pos) scope X.env (firstIterPos [⟨tg, iter, ifs, 0⟩] pos) newDict false (eval iter X.env) (some (assign (.Name y py) X.env))) _ _ s
  have h2 : tDc wi g tt tk tv (own.map (·.2)) σ H (fun x H1 => gName i x σ H1 D.nx) := h
  refine wpAny_bind (thn (dc_core (Qf := fun _ s' => SP X pins D .next s') hc hN I hi ok hg htt hkx hvx hs h2 fun L C s' m H' I' q hn f => ?_) fun _ s' hq => wpAny_pure (wpAny_pure hq))
  show wpAny _ _ (assign (.Name y py) X.env (.ref L)) _ _ _
  refine wpAny_assign_Name (store_ok2 (v := V.ref L) I' hN hy (.inl hyl) rfl (fun s2 I2 ⟨a, sb, ha⟩ => ?_) (.inr hyl)); obtain ⟨f0, f1, f2, f3, f4, f5⟩ := f
  have haC : C ≠ a := by rcases ha with z | z; (· rw [z]; exact f1); (· exact fun e => f4 y a z e.symm)
  refine ⟨m, hn.sameBut sb haC, fun h3 sb3 => ⟨_, H', I2.turned (t' := s2.toks) (fun b o hb e => (sb3.2 b hb).trans e) f0 f1 f3 f4 f5, q⟩⟩
end
end Ox
namespace Ox
open PySem PySem.Spec PyProof.Rows L2
/-! ### sorted texts: one order -/
theorem nlt_trans : ∀ a b c : List Nat, ltCps b a = false → ltCps c b = false → ltCps c a = false
  | [], _, [], _, _ => rfl
  | [], [], _ :: _, _, _ => rfl
  | [], _ :: _, _ :: _, _, _ => rfl
  | _ :: _, [], _, h, _ => by cases h
  | _ :: _, _ :: _, [], _, h => by cases h
  | a :: r, b :: t, c :: u, h1, h2 => by
    have e1 : (decide (b < a) || (b == a && ltCps t r)) = false := h1
    have e2 : (decide (c < b) || (c == b && ltCps u t)) = false := h2
    show (decide (c < a) || (c == a && ltCps u r)) = false
    rw [Bool.or_eq_false_iff, decide_eq_false_iff_not] at e1 e2 ⊢
    refine ⟨by omega, ?_⟩
    by_cases h : c = a
    · have hb : b = a := by omega
      have hc : c = b := by omega
      have f1 := e1.2
      have f2 := e2.2
      rw [hb, beq_self_eq_true, Bool.true_and] at f1
      rw [hc, beq_self_eq_true, Bool.true_and] at f2
      rw [nlt_trans r t u f1 f2, Bool.and_false]
    · rw [beq_eq_false_iff_ne.mpr h, Bool.false_and]
theorem nlt_anti : ∀ a b : List Nat, ltCps b a = false → ltCps a b = false → a = b
  | [], [], _, _ => rfl
  | [], _ :: _, _, h => by cases h
  | _ :: _, [], h, _ => by cases h
  | a :: r, b :: t, h1, h2 => by
    have e1 : (decide (b < a) || (b == a && ltCps t r)) = false := h1
    have e2 : (decide (a < b) || (a == b && ltCps r t)) = false := h2
    rw [Bool.or_eq_false_iff, decide_eq_false_iff_not] at e1 e2
    have hb : b = a := by omega
    subst hb
    have f1 := e1.2
    have f2 := e2.2
    rw [beq_self_eq_true, Bool.true_and] at f1 f2
    rw [nlt_anti r t f1 f2]
abbrev LeS (a b : Str) : Prop := ltCps b.cps.toList a.cps.toList = false
theorem rising_pw : ∀ (p : Str) (l : List Str), risingS p l = true → (p :: l).Pairwise LeS
  | p, [], _ => List.pairwise_singleton _ _
  | p, x :: r, h => by
    have h1 : (!ltCps x.cps.toList p.cps.toList && risingS x r) = true := h
    rw [Bool.and_eq_true, Bool.not_eq_true'] at h1
    have ih := rising_pw x r h1.2
    refine List.pairwise_cons.mpr ⟨fun y hy => ?_, ih⟩
    rcases List.mem_cons.mp hy with e | hy
    · subst e
      exact h1.1
    · exact nlt_trans _ _ _ h1.1 ((List.pairwise_cons.mp ih).1 y hy)
theorem sorted_pw {l : List Str} (h : sortedS l = true) : l.Pairwise LeS := by
  cases l with
  | nil => exact .nil
  | cons x r => exact rising_pw x r h
theorem str_ext {a b : Str} (h : a.cps.toList = b.cps.toList) : a = b := by
  cases a with
  | mk a =>
    cases b with
    | mk b =>
      have e : a = b := Array.toList_inj.mp h
      rw [e]
theorem sorted_one {l l' : List Str} (h : sortedS l = true) (h' : sortedS l' = true) (p : l.Perm l') : l = l' :=
  List.Perm.eq_of_pairwise (le := LeS) (fun a b _ _ h1 h2 => str_ext (nlt_anti _ _ h1 h2)) (sorted_pw h) (sorted_pw h') p
/-! ### a heap without one place -/
def wo (H : Hp) (a : Addr) : Hp := fun b => if b = a then none else H b
theorem wo_at {H : Hp} {a : Addr} : wo H a a = none := if_pos rfl
theorem wo_ne {H : Hp} {a b : Addr} (h : b ≠ a) : wo H a b = H b := if_neg h
theorem wo_same {H : Hp} {a : Addr} : L2.Same (wo H a) H := fun b o e => by
  by_cases h : b = a
  · subst h
    rw [wo_at] at e
    cases e
  · rw [wo_ne h] at e
    exact e
theorem wo_mono {H H' : Hp} {a : Addr} (s : L2.Same H H') : L2.Same (wo H a) (wo H' a) := fun b o e => by
  by_cases h : b = a
  · subst h
    rw [wo_at] at e
    cases e
  · rw [wo_ne h] at e ⊢
    exact s b o e
theorem wo_upd {H : Hp} {a : Addr} {u : HO} : wo (upd H a u) a = wo H a := by
  funext b
  by_cases h : b = a
  · subst h
    rw [wo_at, wo_at]
  · rw [wo_ne h, wo_ne h, upd_ne h]
theorem same_wo {H H' : Hp} {a : Addr} {u : HO} (s : L2.Same H H') : L2.Same (wo H a) (upd H' a u) := same_upd (wo_same.trans s) wo_at
theorem len_put {f : Str} {v : V} {fs : List (Str × V)} {k : Nat} (h : fs.length < k) : (putF f v fs).length < k + 1 := Nat.lt_of_le_of_lt (length_putF _ _ _) (Nat.succ_lt_succ h)
end Ox
namespace Ox
open PySem PySem.Spec PyProof.Rows L2
/-! ### slices -/
def rPartA (x : V) (H : Hp) (R : Option Int → Hp → Prop) : Prop := ∃ i, x = .int i ∧ R (some i) H
section
variable {σ : L2.St} {H : Hp} {Q : VK} {te : TE} {tl th : TO} {K : PySem.W.Frag} {R : Option Int → Hp → Prop}
theorem x_sl {r : V → Option Int → Option Int → Hp → VK → Prop} (h : te σ H fun x H1 => tl σ H1 fun l H2 => th σ H2 fun u H3 => r x l u H3 Q) : tSl r te tl th σ H Q := h
theorem x_nopart (h : R none H) : tNoPart σ H R := h
theorem x_part (h : te σ H fun x H1 => rPartA x H1 R) : tPart te σ H R := h
theorem x_parti {i : Int} (h : R (some i) H) : rPartA (.int i) H R := ⟨i, rfl, h⟩
theorem x_slL {p : Addr} {xs : List V} {lo hi : Option Int} (h : SqL K H p xs) (q : ∀ l, H l = none → Q (.ref l) (upd H l (.lst (cutV xs lo hi)))) : rSlL K (.ref p) lo hi H Q := ⟨p, xs, rfl, h, q⟩
theorem cut_from {xs : List V} {lo : Int} (h0 : 0 ≤ lo) (h1 : lo ≤ xs.length) : cutV xs (some lo) none = xs.drop lo.toNat := by
  obtain ⟨k, rfl⟩ : ∃ k : Nat, lo = (k : Int) := ⟨lo.toNat, by omega⟩
  unfold cutV
  rw [HT.sIx_nat, HT.sIx_none, Int.toNat_natCast]
  have hk : min k xs.length = k := by omega
  rw [hk]
  exact List.take_of_length_le (by rw [List.length_drop]; omega)
theorem cut_to {xs : List V} {hi : Int} (h0 : 0 ≤ hi) (h1 : hi ≤ xs.length) : cutV xs none (some hi) = xs.take hi.toNat := by
  obtain ⟨k, rfl⟩ : ∃ k : Nat, hi = (k : Int) := ⟨hi.toNat, by omega⟩
  unfold cutV
  rw [HT.sIx_nat, HT.sIx_none, Int.toNat_natCast]
  have hk : min k xs.length = k := by omega
  rw [hk]
  rfl
end
/-! ### a list of whole numbers, asked at a place -/
theorem pickI (L : List Int) {j : Int} (h0 : 0 ≤ j) (h1 : j < L.length) : ∃ g, (L.map V.int)[j.toNat]? = some (.int g) ∧ g ∈ L := by
  have hlt : j.toNat < L.length := by omega
  refine ⟨L[j.toNat], ?_, List.getElem_mem hlt⟩
  rw [List.getElem?_map, List.getElem?_eq_getElem hlt]
  rfl
theorem pickS (L : List Str) {j : Int} (h0 : 0 ≤ j) (h1 : j < L.length) : ∃ g, (L.map V.str)[j.toNat]? = some (.str g) ∧ L[j.toNat]? = some g := by
  have hlt : j.toNat < L.length := by omega
  refine ⟨L[j.toNat], ?_, List.getElem?_eq_getElem hlt⟩
  rw [List.getElem?_map, List.getElem?_eq_getElem hlt]
  rfl
/-! ### stores, asked again -/
theorem lookup_putL {α : Type} (l : List (Str × α)) (z : Str) (x : α) (y : Str) : (putL l z x).lookup y = if y = z then some x else l.lookup y := by
  by_cases hz : z ∈ l.map (·.1)
  · rw [putL_old x hz]
    have key : ∀ l : List (Str × α), (l.map fun p => if p.1 = z then (p.1, x) else p).lookup y = if y = z then (if z ∈ l.map (·.1) then some x else none) else l.lookup y := by
      intro l
      induction l with
      | nil => by_cases e : y = z <;> simp [e]
      | cons p r ih =>
        rw [List.map_cons, List.lookup_cons, List.lookup_cons, ih]
        by_cases ep : p.1 = z
        · rw [if_pos ep]
          by_cases e : y = z
          · have : (y == p.1) = true := by rw [e, ep]; exact beq_self_eq_true z
            simp [e, ep]
          · have : (y == p.1) = false := by rw [ep]; exact beq_eq_false_iff_ne.mpr e
            simp [e, this]
        · rw [if_neg ep]
          by_cases e : y = z
          · have h2 : (y == p.1) = false := by rw [e]; exact beq_eq_false_iff_ne.mpr fun q => ep q.symm
            have h3 : (z ∈ (p :: r).map (·.1)) ↔ z ∈ r.map (·.1) := by
              rw [List.map_cons, List.mem_cons]
              exact ⟨fun h => h.resolve_left fun q => ep q.symm, .inr⟩
            rw [h2]
            simp only [e, if_true]
            by_cases h4 : z ∈ r.map (·.1)
            · rw [if_pos h4, if_pos (h3.mpr h4)]
            · rw [if_neg h4, if_neg fun q => h4 (h3.mp q)]
          · simp only [e, if_false]
    rw [key l, if_pos hz]
  · rw [putL_new x hz, List.lookup_append]
    by_cases e : y = z
    · rw [if_pos e, e, lookup_none hz]
      simp
    · rw [if_neg e]
      cases hl : l.lookup y with
      | some v => rfl
      | none =>
        have e2 : (y == z) = false := beq_eq_false_iff_ne.mpr e
        simp [List.lookup, e2]
theorem putL_keys2 {α β : Type} {l : List (Str × α)} {m : List (Str × β)} (h : m.map (·.1) = l.map (·.1)) (z : Str) (x : α) (y : β) : (putL m z y).map (·.1) = (putL l z x).map (·.1) := by
  by_cases hz : z ∈ l.map (·.1)
  · rw [putL_keys x hz, putL_keys y (by rw [h]; exact hz), h]
  · rw [putL_new x hz, putL_new y (by rw [h]; exact hz), List.map_append, List.map_append, h]
    rfl
theorem putL_pos {α : Type} (l : List (Str × α)) (z : Str) (x : α) : 1 ≤ (putL l z x).length := by
  by_cases hz : z ∈ l.map (·.1)
  · rw [putL_old x hz, List.length_map]
    cases l with
    | nil => cases hz
    | cons p r => exact Nat.succ_le_succ (Nat.zero_le _)
  · rw [putL_new x hz, List.length_append]
    exact Nat.le_add_left _ _
/-! ### heaps without the pool -/
theorem but_wo {p : Addr} {H H' : Hp} (b : But p H H') : L2.Same (wo H p) (wo H' p) := fun x o e => by
  by_cases h : x = p
  · subst h
    rw [wo_at] at e
    cases e
  · rw [wo_ne h] at e ⊢
    exact b x o e h
theorem wo_upd_ne {H : Hp} {p D : Addr} {u : HO} (h : D ≠ p) : wo (upd H D u) p = upd (wo H p) D u := by
  funext b
  by_cases e : b = p
  · subst e
    rw [wo_at, upd_ne (Ne.symm h), wo_at]
  · rw [wo_ne e]
    by_cases e2 : b = D
    · subst e2
      rw [upd_same, upd_same]
    · rw [upd_ne e2, upd_ne e2, wo_ne e]
theorem wo_none {H : Hp} {p a : Addr} (h : H a = none) : wo H p a = none := by
  by_cases e : a = p
  · rw [e]; exact wo_at
  · rw [wo_ne e]; exact h
theorem wo_some {H : Hp} {p a : Addr} {o : HO} (h : wo H p a = some o) : H a = some o ∧ a ≠ p := by
  by_cases e : a = p
  · rw [e, wo_at] at h
    cases h
  · rw [wo_ne e] at h
    exact ⟨h, e⟩
end Ox
namespace Ox
open PySem PySem.Spec PyProof.Rows L2
theorem same_made {H H1 H' : Hp} {x dx C : Addr} (s : L2.Same H H1) (nx : H1 x = none) (nd : H1 dx = none) (k : ∀ b o, (upd (upd H1 dx (.own x)) x (.ins C dx [])) b = some o → b ≠ x → H' b = some o) : L2.Same H H' := fun b o e => by
  have e1 := s b o e
  exact k b o (by rw [upd_ne (ne_of_none e1 nx), upd_ne (ne_of_none e1 nd)]; exact e1) (ne_of_none e1 nx)
end Ox

/-! Own layer, fourth part: enumerate(row), the row a list or a tuple. -/
namespace Ox
open PySem PySem.Spec PyProof.Rows L2
theorem meets_enum1 {v : Value} {o : Obj} {Hh : Heap → Prop} (B : Begins v o Hh) :
    Meets (Builtin.«enumerate.__new__» ⟨[.type "enumerate", v], []⟩) (fun _ R s => Hh s.heap ∧
      R (.ok (.ret (.ref (s.heap.push o).objs.size))) { s with heap := (s.heap.push o).push { cls := .type "enumerate", data := .fields #[.none, .bool false, .ref s.heap.objs.size, rawInt 0, .none, .none] } }) :=
  .of_wp fun prog w A R s h => by
    obtain ⟨hp, gs, dr, tk, os⟩ := s
    obtain ⟨h1, h2⟩ := h
    have hsub := sub_enumerate
    have q1 : ∀ {A' : Around} {E : Value → Shared → Prop} {Q : Value → Shared → Prop}, Q (.ref hp.objs.size) ⟨hp.push o, gs, dr, tk, os⟩ → wpAny (model prog w) A' (pyIter v) Q E ⟨hp, gs, dr, tk, os⟩ := fun q => B.iter prog w _ _ ⟨hp, gs, dr, tk, os⟩ _ h1 q
    wp_walk using q1
    refine wpAny_stack_any fun st => wpAny_pure ?_
    split
    · rename_i c _ _ _ _ _
      cases (c == Value.type "enumerate") <;> (wp_walk using q1; exact ⟨_, rfl, h2⟩)
    · wp_walk using q1; exact ⟨_, rfl, h2⟩
section
variable {prog : Program} {w : World} {A : Around} {E : Value → Shared → Prop} {s : Shared}
theorem enum1_begins {v : Value} {o : Obj} {Hh : Heap → Prop} {Q : Value → Shared → Prop} (B : Begins v o Hh) (h1 : Hh s.heap)
    (h : ∀ h', IsEnum h' (s.heap.objs.size + 1) s.heap.objs.size 0 .none → h'.get? s.heap.objs.size = some o → h'.objs.size = s.heap.objs.size + 2 → (∀ b o, s.heap.get? b = some o → h'.get? b = some o) → Q (.ref (s.heap.objs.size + 1)) { s with heap := h' }) :
    wpAny (model prog w) A (call (.type "enumerate") [v]) Q E s := by
  refine callType_new F.called_enumerate (by decide) (F.typeCall_enumerate_1 _) (F.newCall_enumerate_1 _) (fun obj => F.args_object_init_2 obj _) F.entry_enumerate_new (meets_enum1 B) ⟨h1, ?_⟩
  have hz : (s.heap.push o).objs.size = s.heap.objs.size + 1 := Heap.size_push ..
  show _ ∧ _
  rw [hz]
  have he : IsEnum ((s.heap.push o).push { cls := .type "enumerate", data := .fields #[.none, .bool false, .ref s.heap.objs.size, rawInt 0, .none, .none] }) (s.heap.objs.size + 1) s.heap.objs.size 0 .none := by
    have e := Heap.get?_push_size (s.heap.push o) (o := { cls := .type "enumerate", data := .fields #[.none, .bool false, .ref s.heap.objs.size, rawInt 0, .none, .none] }) rfl
    rw [hz] at e; exact e
  refine ⟨⟨_, he, rfl⟩, h _ he (Heap.get?_push_of_some _ (Heap.get?_push_size _ B.free)) (by rw [Heap.size_push, hz]) ?_⟩
  exact fun b ob x => Heap.get?_push_of_some _ (Heap.get?_push_of_some _ x)
end
/-- the tuple at a as it stands at each turn, each item in a new pair -/
def IteT (K : PySem.W.Frag) (a : Addr) : It :=
  ⟨fun i H => ∃ (xs : List V) (x : V), SqT K H a xs ∧ xs[i]? = some x, fun i H v H' => ∃ T x, v = .ref T ∧ H T = none ∧ H' = upd H T (.tup [.int (i : Nat), x]) ∧ ∀ xs, SqT K H a xs → xs[i]? = some x, fun i H => ∃ xs : List V, SqT K H a xs ∧ xs.length = i⟩
theorem turn_enumT {P : Program} {w : World} {K : PySem.W.Frag} {elts : List Expr} {kk : Nat} {tpos : Pos} (a e it : Addr) :
    Turn P w K (.Tuple elts kk tpos) (IteT K a) [e, it] e (fun i h => (∃ old, IsEnum h e it ((i : Nat) : Int) old) ∧ h.IsTupleIter it a i ∧ e ≠ it) where
  mem := by simp
  obj := fun i h st b hb => by
    obtain ⟨⟨old, he⟩, ⟨o, ho, hc, hd⟩, _⟩ := st
    rcases (show b = e ∨ b = it by simpa using hb) with z | z <;> rw [z]
    · exact ⟨_, he, fun v q => nomatch q⟩
    · exact ⟨o, ho, fun v q => by rw [hd] at q; cases q⟩
  keep := fun i h h' st k => ⟨st.1.imp fun old he => k e (by simp) _ he, st.2.1.at fun o q => k it (by simp) o q, st.2.2⟩
  item := by
    intro X hP hw hK hc i pins s σ H E I hf st hg; subst hP hw hK
    obtain ⟨⟨old, he⟩, hit, hne⟩ := st; obtain ⟨xs, x, hq, hx⟩ := hg
    obtain ⟨its, rv, p, hz⟩ := I.tuple hq
    have hT0 : s.heap.IsTuple a its.toArray := p
    obtain ⟨u, hu, ru⟩ := rv.get hx
    have hel : e < s.heap.objs.size := Heap.lt_size he
    have hil : it < s.heap.objs.size := by obtain ⟨_, q, _⟩ := hit; exact Heap.lt_size q
    have hai : a ≠ it := fun z => by
      obtain ⟨o1, q1, c1, _⟩ := hit; obtain ⟨o2, q2, c2, _⟩ := hT0
      rw [z, q1] at q2; cases q2; rw [c1] at c2; injection c2 with c3; exact absurd c3 (by decide)
    have hea : e ≠ a := fun z => by
      obtain ⟨o2, q2, c2, _⟩ := hT0
      rw [← z, show s.heap.get? e = _ from he] at q2; cases q2; injection c2 with c3; exact absurd c3 (by decide)
    have hh : X.A.in1.handled = none := I.ok.hd hc
    have hlt : i < its.toArray.size := by
      have := (List.getElem?_eq_some_iff.mp hu).1
      simpa using this
    refine wpAny_pyNext_enum_itemD (Draws.tuple hh it a hai its.toArray) he ⟨hit, hT0⟩ hlt hne (by simp [hne, hea]) fun y h' tk hy ho hst' hT hsz hk => ?_
    have ey : y = u := by
      have e1 : its.toArray[i]? = some u := by simpa using hu
      rw [e1] at hy
      exact (Option.some.inj hy).symm
    subst ey
    refine ⟨_, rfl, wpAny_letOwnedTupleGo_enum (s := { s with heap := h', toks := tk + 1 }) ho fun h'' he' sb => ?_⟩
    have hT2 : h''.get? s.heap.objs.size = some { cls := .type "tuple", data := .seq #[.int i tk, y] } := (sb.2 _ (Nat.ne_of_gt hel)).trans hT
    have new : ObjOk X.prog X.w (upd H s.heap.objs.size (.tup [.int (i : Nat), x])) h'' s.heap.objs.size (.tup [.int (i : Nat), x]) := ⟨by show 2 ≤ sizeLine; decide, [.int i tk, y], .cons ⟨_, rfl⟩ (.cons ru .nil), ⟨_, hT2, rfl, _, rfl⟩⟩
    have I1 : Inv X pins σ (upd H s.heap.objs.size (.tup [.int (i : Nat), x])) { s with heap := h'', toks := tk + 1 } :=
      I.turnedNew (ch := [e, it]) (fun b ob hb q => (sb.2 b (fun z => hb (by rw [z]; simp))).trans (hk b ob (fun z => hb (by rw [z]; simp)) (fun z => hb (by rw [z]; simp)) q)) hf (Nat.le_refl _) new
    refine ⟨.ref s.heap.objs.size, _, I1, rfl, ⟨_, x, rfl, I.hok.fresh (Nat.le_refl _), rfl, fun ys hy => by rw [I.tuple_inj hy hq]; exact hx⟩, ⟨⟨y, ?_⟩, hst'.1.at fun o q => (sb.2 it (Ne.symm hne)).trans q, hne⟩, fun b hb => ?_⟩
    · rw [show ((i + 1 : Nat) : Int) = (i : Int) + 1 by omega]; exact he'
    · have hb' : b < s.heap.objs.size := by rcases (show b = e ∨ b = it by simpa using hb) with z | z <;> (rw [z]; assumption)
      rw [upd_ne (Nat.ne_of_lt hb')]; exact (hf b hb).1
  done := by
    intro X hP hw hK hc i pins s σ H E I hf st hg; subst hP hw hK
    obtain ⟨⟨old, he⟩, hit, hne⟩ := st; obtain ⟨xs, hq, hx⟩ := hg
    obtain ⟨its, rv, p, hz⟩ := I.tuple hq
    have hT0 : s.heap.IsTuple a its.toArray := p
    obtain ⟨f0, f1, f2, f3, f4, f5⟩ := hf it (by simp)
    have hai : a ≠ it := fun z => by
      obtain ⟨o1, q1, c1, _⟩ := hit; obtain ⟨o2, q2, c2, _⟩ := hT0
      rw [z, q1] at q2; cases q2; rw [c1] at c2; injection c2 with c3; exact absurd c3 (by decide)
    have hh : X.A.in1.handled = none := I.ok.hd hc
    have hl := rv.length
    have hea : e ≠ a := fun z => by
      obtain ⟨o2, q2, c2, _⟩ := hT0
      rw [← z, show s.heap.get? e = _ from he] at q2; cases q2; injection c2 with c3; exact absurd c3 (by decide)
    have hn : its.toArray.size = i := by simp; omega
    subst hn
    exact wpAny_pyNext_enum_endD (Draws.tuple hh it a hai its.toArray) he ⟨hit, hT0⟩ fun h' eb => ⟨rfl, I.turned (t' := s.toks) (fun b o hb q => eb b o hb q) f0 f1 f3 f4 f5⟩
  self := fun A i s Q E st h => st.1.elim fun old he => wpAny_pyIter_enum he h
def iEnumT (K : PySem.W.Frag) (ta : TA) : TI := fun σ H R => ta σ H fun vs H1 => ∃ a xs, vs = [.ref a] ∧ ((SqL K H1 a xs ∧ R (Ite K a) H1) ∨ (SqT K H1 a xs ∧ R (IteT K a) H1))
theorem pi_enumT {X : Cx} {e : Expr} {ta : TA} {p pos tpos : Pos} {elts : List Expr} {kk : Nat} (hg : Gl X "enumerate") (hm : X.mg "enumerate" = none) (ha : PA X [e] ta) (hs : starEach [e] X.env = [(false, eval e X.env)] := by rfl) :
    PI X (.Tuple elts kk tpos) (.Call (.Name "enumerate" p) [e] [] pos) (iEnumT X.K ta) := by
  constructor; intro pins s σ H R I h
  refine Call_ (ld_blt I hg hm boot_enumerate (PyProof.Rows.callWith_type1 (thn (ha.run pos pins s σ H _ I h) fun us s1 ⟨vs, H1, I1, r1, q1⟩ => ?_) hs rfl))
  obtain ⟨a, xs, ex, hq⟩ := q1; subst ex
  obtain ⟨u, rfl, ru⟩ := vals1 r1
  cases ru
  have fresh : ∀ b, b = s1.heap.objs.size + 1 ∨ b = s1.heap.objs.size → FpOk X pins H1 b := fun b hb => by
    have hle : s1.heap.objs.size ≤ b := by rcases hb with z | z <;> rw [z] <;> omega
    exact I1.fpOk hle (I1.hok.fresh hle)
  rcases hq with ⟨hq, q⟩ | ⟨hq, q⟩
  · obtain ⟨its, rv, p', hz⟩ := I1.list hq
    refine call_enumerate_list p'.isList fun h' he hit hsz hk => wpAny_pyIter_enum he ⟨s1.heap.objs.size + 1, [s1.heap.objs.size + 1, s1.heap.objs.size], _, _, H1, rfl, I1.kept (t' := s1.toks) hk, turn_enum a (s1.heap.objs.size + 1) s1.heap.objs.size, ⟨⟨.none, he⟩, hit, Nat.succ_ne_self _⟩, fun b hb => fresh b (by simpa using hb), q⟩
  · obtain ⟨its, rv, p', hz⟩ := I1.tuple hq
    refine enum1_begins (begins_tuple a its.toArray) p' fun h' he hit hsz hk => wpAny_pyIter_enum he ⟨s1.heap.objs.size + 1, [s1.heap.objs.size + 1, s1.heap.objs.size], _, _, H1, rfl, I1.kept (t' := s1.toks) hk, turn_enumT a (s1.heap.objs.size + 1) s1.heap.objs.size, ⟨⟨.none, he⟩, ⟨_, hit, rfl, rfl⟩, Nat.succ_ne_self _⟩, fun b hb => fresh b (by simpa using hb), q⟩
/-! ### the loop over it -/
def LpE (K : PySem.W.Frag) (g : TG) (tb : TS) (D : Ends) (σ : L2.St) (vs : List V) (H : Hp) : Prop := ∃ a xs, vs = [.ref a] ∧ ((SqL K H a xs ∧ Lp (Ite K a) g tb D σ H) ∨ (SqT K H a xs ∧ Lp (IteT K a) g tb D σ H))
section
variable {σ : L2.St} {H : Hp} {n : L2.St → Hp → Prop} {r : VK} {b c : L2.St → Hp → Prop} {tb : TS} {g : TG} {K : PySem.W.Frag} {al : TA} {p : Addr}
theorem x_forE (h : al σ H fun x H1 => LpE K g tb ⟨n, r, b, c⟩ σ x H1) : tFor (iEnumT K al) g tb ⟨n, r, b, c⟩ σ H := h
/-- a list or a tuple -/
def SqR (K : PySem.W.Frag) (H : Hp) (a : Addr) (xs : List V) : Prop := SqL K H a xs ∨ SqT K H a xs
theorem lpE {xs : List V} (Pv : Nat → L2.St → Hp → Prop) (h : (∀ σ' H' i, i ≤ xs.length → Pv i σ' H' → SqL K H' p xs) ∨ (∀ σ' H' i, i ≤ xs.length → Pv i σ' H' → SqT K H' p xs)) (h0 : Pv 0 σ H)
    (hs : ∀ i x σ H T, xs[i]? = some x → Pv i σ H → H T = none → g (.ref T) σ (upd H T (.tup [.int (i : Nat), x])) fun σ2 H2 => tb ⟨Pv (i + 1), r, n, Pv (i + 1)⟩ σ2 H2) (hd : ∀ σ H, Pv xs.length σ H → n σ H) : LpE K g tb ⟨n, r, b, c⟩ σ [.ref p] H := by
  rcases h with h | h
  · refine ⟨p, xs, rfl, .inl ⟨h σ H 0 (Nat.zero_le _) h0, fun i k σ H => k = xs.length - i ∧ i ≤ xs.length ∧ Pv i σ H, ⟨_, rfl, Nat.zero_le _, h0⟩, ?_⟩⟩
    rintro i k σ1 H1 ⟨rfl, hi, hp⟩
    have q := h σ1 H1 i hi hp
    by_cases hlt : i < xs.length
    · refine .inr ⟨⟨xs, xs[i], q, by simp [hlt]⟩, Pv (i + 1), fun σ' H' p' => ⟨xs.length - (i + 1), by omega, rfl, hlt, p'⟩, fun x H' y => ?_⟩
      obtain ⟨T, v, rfl, hT, rfl, hv⟩ := y
      exact hs i v σ1 H1 T (hv xs q) hp hT
    · have e : i = xs.length := by omega
      subst e
      exact .inl ⟨⟨xs, q, Nat.le_refl _⟩, hd σ1 H1 hp⟩
  · refine ⟨p, xs, rfl, .inr ⟨h σ H 0 (Nat.zero_le _) h0, fun i k σ H => k = xs.length - i ∧ i ≤ xs.length ∧ Pv i σ H, ⟨_, rfl, Nat.zero_le _, h0⟩, ?_⟩⟩
    rintro i k σ1 H1 ⟨rfl, hi, hp⟩
    have q := h σ1 H1 i hi hp
    by_cases hlt : i < xs.length
    · refine .inr ⟨⟨xs, xs[i], q, by simp [hlt]⟩, Pv (i + 1), fun σ' H' p' => ⟨xs.length - (i + 1), by omega, rfl, hlt, p'⟩, fun x H' y => ?_⟩
      obtain ⟨T, v, rfl, hT2, rfl, hv⟩ := y
      exact hs i v σ1 H1 T (hv xs q) hp hT2
    · have e : i = xs.length := by omega
      subst e
      exact .inl ⟨⟨xs, q, rfl⟩, hd σ1 H1 hp⟩
end
end Ox
namespace Ox
open PySem PySem.Spec PyProof.Rows L2
/-! ### methods -/
section
variable {X : Cx} {k : Nat} {C : Addr} {m : Str} {ps : List Str} {sp : Sp} {o e : Expr} {es : List Expr} {ta : TE} {t : TA} {apos pos : Pos} {pl : Sem Bool}
theorem pe_mt (M : Met X.prog X.w X.K X.mg X.base C k m ps sp) (kc : Cls X.K C) (hr : Room k X.A) (he : PE X o ta) (ha : PA X (e :: es) t)
    (hst : starEach (e :: es) X.env = (false, eval e X.env) :: starEach es X.env := by rfl) (hpl : (backTo pos (starEach es X.env)).any (·.1) = false := by rfl)
    (ht : eval (.Call (.Attribute o m apos) (e :: es) [] pos) X.env = (do let ov ← eval o X.env; standAt apos.atName; let (f, first) ← holding [ov] (getMethod ov m pl); callWith pos f first (backTo pos (starEach (e :: es) X.env)) (backToKw pos (keywordEach [] X.env))) := by rfl) :
    PE X (.Call (.Attribute o m apos) (e :: es) [] pos) (tMeth C m sp [] E0 ta t) := by
  obtain ⟨f, fd, mt, F, hb⟩ := M.ex
  exact pe_meth he kc mt F hr hb .nil pass0 ha hst hpl ht
end
def rMtA (C : Addr) (m : Str) (x : V) (H : Hp) (Z : Prop) : Prop := ∃ a dx fs, x = .ref a ∧ H a = some (.ins C dx fs) ∧ fs.lookup m = none ∧ Z
section
variable {σ : L2.St} {H : Hp} {Q : VK} {ta : TE} {al : TA} {C : Addr} {m : Str} {sp : Sp} {K : PySem.W.Frag}
theorem x_mt (h : ta σ H fun x H1 => rMtA C m x H1 (al σ H1 fun vs H2 => sp (x :: vs) H2 Q E0)) : tMeth C m sp [] E0 ta al σ H Q := by
  show ta σ H fun x H1 => ∃ a dx fs, x = .ref a ∧ H1 a = some (.ins C dx fs) ∧ fs.lookup m = none ∧ al σ H1 fun vs H2 => sp (x :: (vs ++ [])) H2 Q E0
  have e : (fun (x : V) (H1 : Hp) => ∃ a dx fs, x = .ref a ∧ H1 a = some (.ins C dx fs) ∧ fs.lookup m = none ∧ al σ H1 fun vs H2 => sp (x :: (vs ++ [])) H2 Q E0) = fun x H1 => rMtA C m x H1 (al σ H1 fun vs H2 => sp (x :: vs) H2 Q E0) := by
    funext x H1
    have e2 : (fun (vs : List V) (H2 : Hp) => sp (x :: (vs ++ [])) H2 Q E0) = fun vs H2 => sp (x :: vs) H2 Q E0 := by
      funext vs H2
      rw [List.append_nil]
    rw [e2]
    rfl
  rw [e]
  exact h
theorem x_mti {a dx : Addr} {fs : List (Str × V)} {Z : Prop} (h : H a = some (.ins C dx fs)) (hl : fs.lookup m = none) (q : Z) : rMtA C m (.ref a) H Z := ⟨a, dx, fs, rfl, h, hl, q⟩
/-! ### isinstance(x, (list, tuple)) -/
theorem x_isiLT {x : V} {k : Kn} {tp : Addr} (h : Kd K H x k) (ht : H tp = some (.tup [.ty "list", .ty "tuple"])) (q : Q (.bl (isB k .lst || isB k .tup)) H) : rIsiT K [x, .ref tp] H Q := by
  refine ⟨x, tp, _, _, _, _, rfl, ht, .cons (.ty "list") (.cons (.ty "tuple") .nil), h.tyx, ?_, q⟩
  cases k <;> rfl
end
/-! ### x[i], x a list or a tuple -/
def rIxQ (K : PySem.W.Frag) : R2 := fun x y H Q => rIxL K x y H Q ∨ rIxT K x y H Q
theorem ix_seq {X : Cx} : IxR X (rIxQ X.K) := fun a b pins s σ H x y v u Q I rx ry h hs => h.elim (fun h => ix_list a b pins s σ H x y v u Q I rx ry h hs) fun h => ix_tup a b pins s σ H x y v u Q I rx ry h hs
theorem ix_seqK {X : Cx} {K : PySem.W.Frag} (e : X.K = K := by rfl) : IxR X (rIxQ K) := e ▸ ix_seq
theorem x_ixq {K : PySem.W.Frag} {H : Hp} {Q : VK} {p : Addr} {xs : List V} {k : Int} {v : V} (j : Nat) (h : SqR K H p xs) (hk : k = (j : Int)) (ha : xs[j]? = some v) (q : Q v H) : rIxQ K (.ref p) (.int k) H Q :=
  h.elim (fun h => .inl (x_ixl j h hk ha q)) fun h => .inr (x_ixt j h hk ha q)
theorem x_lenQ {K : PySem.W.Frag} {H : Hp} {Q : VK} {p : Addr} {xs : List V} (h : SqR K H p xs) (q : Q (.int xs.length) H) : rLenA K [V.ref p] H Q := h.elim (fun h => x_lenL h q) fun h => x_lenT h q
theorem x_listQ {K : PySem.W.Frag} {H : Hp} {Q : VK} {p : Addr} {xs : List V} (h : SqR K H p xs) (q : ∀ l, H l = none → Q (.ref l) (upd H l (.lst xs))) : rListA K [V.ref p] H Q := h.elim (fun h => x_listL h q) fun h => x_listT h q
end Ox

namespace Ox
open PySem PySem.Spec PyProof.Rows L2
/-! sorted(d, reverse=True), d a dict with text keys: a permutation of its keys -/
def codesOf : Value → List Nat
  | .str z _ => z.cps.toList
  | _ => []
def textOf : Value → Str
  | .str z _ => z
  | _ => ""
def ltCodes (v u : Value) : Bool := decide (codesOf v < codesOf u)
theorem swo_codes : SrtO.Swo ltCodes := by
  refine ⟨fun x y h => ?_, fun x y z h1 h2 => ?_⟩
  · exact decide_eq_false (List.lt_asymm (of_decide_eq_true (p := codesOf x < codesOf y) h))
  · have a := of_decide_eq_false (p := codesOf y < codesOf x) h1
    have b := of_decide_eq_false (p := codesOf z < codesOf y) h2
    exact decide_eq_false (p := codesOf z < codesOf x) (List.not_lt.mpr (List.le_trans (List.not_lt.mp a) (List.not_lt.mp b)))
theorem texts_in : ∀ {vs : List Value} {ks : List Str}, StrsAre vs ks → ∀ v ∈ vs, ∃ z t, v = Value.str z t := by
  intro vs ks h
  induction h with
  | nil => exact fun v hv => by cases hv
  | cons z t _ ih =>
    intro v hv
    rcases List.mem_cons.mp hv with rfl | hv
    · exact ⟨z, t, rfl⟩
    · exact ih v hv
theorem texts_of : ∀ {vs : List Value} {ks : List Str}, StrsAre vs ks → vs.map textOf = ks := by
  intro vs ks h
  induction h with
  | nil => rfl
  | cons z t _ ih =>
    rw [List.map_cons, ih]
    rfl
theorem texts_are : ∀ {vs : List Value}, (∀ v ∈ vs, ∃ z t, v = Value.str z t) → StrsAre vs (vs.map textOf) := by
  intro vs
  induction vs with
  | nil => exact fun _ => .nil
  | cons v r ih =>
    intro h
    obtain ⟨z, t, rfl⟩ := h v List.mem_cons_self
    exact .cons z t (ih fun u hu => h u (List.mem_cons_of_mem _ hu))
theorem texts_sortable {prog : Program} {w : World} {A : Around} {s : Shared} {a : Addr} {vs : List Value} {ks : List Str} (hT : StrsAre vs ks) (h2 : 2 ≤ vs.length) : SrtO.SortableO prog w A s a vs ltCodes := by
  intro h1 _
  refine ⟨oneType', fun Q E hq => ?_, fun p q hp hq => ?_⟩
  · obtain ⟨v1, v2, rest, rfl⟩ : ∃ v1 v2 rest, vs = v1 :: v2 :: rest := by
      cases vs with
      | nil => simp at h2
      | cons v1 r =>
        cases r with
        | nil => simp at h2
        | cons v2 r => exact ⟨v1, v2, r, rfl⟩
    rw [keyKind_strs hT]
    exact wpAny_pure hq
  · obtain ⟨x, t, ex⟩ := texts_in hT _ hp
    obtain ⟨y, u, ey⟩ := texts_in hT _ hq
    change wpAny (model prog w) A (keyLt' oneType' p.1 q.1) (fun r s1 => s1 = _ ∧ r = ltCodes p.1 q.1) (fun _ _ => False) _
    rw [ex, ey, keyLt'_oneType]
    exact oneLt_str ⟨rfl, rfl⟩
def rSortRev : List V → List V → Hp → VK → Prop := fun xs zs H Q => ∃ (d : Addr) (kvs : List (Key × V)) (ks : List Str), xs = [.ref d] ∧ zs = [.bl true] ∧ Rd H d (.dK kvs) ∧ kvs.map (·.1) = ks.map Sum.inr ∧ ks.length ≤ 10000 ∧
  ∀ (ys : List Str) (p : Addr), ys.Perm ks → H p = none → Q (.ref p) (upd H p (.lst (ys.map V.str)))
theorem call_sortRev {X : Cx} (calm : X.calm = true) : CallRK X (.builtin "sorted") [Str.ofString "reverse"] rSortRev := by
  intro pn st σ H args kws us ws Q I ra rk hq
  obtain ⟨d, kvs, ks, rfl, rfl, rd, ek, len, fin⟩ := hq
  obtain ⟨ud, rfl, rud⟩ := vals1 ra
  cases rud
  obtain ⟨w1, rfl, e1⟩ := vals1 rk
  obtain rfl : w1 = Value.bool true := e1
  obtain ⟨_, low, rows, rowsR, isd⟩ := dk_rd I.hok rd
  obtain ⟨epoch, atd⟩ := isd.dictAt
  have keyE : rows.map Prod.fst = ks.map Sum.inr := Eq.trans rowsR.keys.symm ek
  have lenE : rows.length = ks.length := by
    have t := congrArg List.length keyE
    simpa using t
  have line : ks.length ≤ sizeLine := by rw [sizeLine_eq]; omega
  refine call_function_entry_kw kind_sorted plain_sorted entry_sorted (args_sorted_rev _ _) ?_
  unfold Builtin.«sorted»
  refine wpAny_bind (m := checkCount "sorted" 1 1 _) (wpAny_pure (wpAny_bind (PySem.W.kdu_collect (A := X.A.in1) (PySem.W.kdl_dict (knd := mixKind X.prog X.w) (kvs := rows) (ep := epoch) low) (I.ok.hd calm) atd (by rw [lenE]; exact line) fun h1 t1 got keep isgot => ?_)))
  have gotL : got.toList.length = ks.length := (Array.length_toList ..).trans (isgot.1.trans lenE)
  have texts : StrsAre got.toList ks := strs_at gotL fun j v ev => by
    obtain ⟨key, _, er, ki⟩ := isgot.2 j v (by rw [← Array.getElem?_toList]; exact ev)
    have ekj : (ks.map Sum.inr)[j]? = some key := by rw [← keyE, List.getElem?_map, er]; rfl
    rw [List.getElem?_map] at ekj
    cases ez : ks[j]? with
    | none => rw [ez] at ekj; cases ekj
    | some z =>
      rw [ez] at ekj
      cases ekj
      obtain ⟨t, et⟩ := Value.isStrOf_shape (x := z) (v := v) ki
      exact ⟨z, t, rfl, et⟩
  have J : Inv X pn σ H { st with heap := h1, toks := t1 } := I.kept keep
  refine wpAny_bind (wpAny_newList ?_ (by rw [gotL]; rw [sizeLine_eq] at line; exact line))
  have isl : (h1.push (seqObj "list" got.toList.toArray 0)).get? h1.objs.size = some (seqObj "list" got.toList.toArray 0) := Heap.get?_push_size _ rfl
  change wpAny _ _ _ _ _ { st with heap := h1.push (seqObj "list" got.toList.toArray 0), toks := t1 }
  refine wpAny_bind (wpAny_holding (wpAny_call_entry_kw slot_list_sort ⟨_, isl, rfl⟩ entry_list_sort ?_ (args_list_sort_rev _ _)))
  refine SrtR.list_sort_ordR swo_codes isl (by rw [gotL]; exact line) (fun h2 => texts_sortable texts h2) fun out _ stable => ⟨_, rfl, ?_⟩
  have pm : out.Perm got.toList := stable.perm.trans (List.reverse_perm _)
  have outT : StrsAre out.reverse (out.reverse.map textOf) := texts_are fun v hv => texts_in texts v (pm.mem_iff.mp (List.mem_reverse.mp hv))
  have outP : (out.reverse.map textOf).Perm ks := by
    have t := ((List.reverse_perm out).trans pm).map textOf
    rw [texts_of texts] at t
    exact t
  obtain ⟨ep2, at2⟩ := sortedHeap_at (vs := got.toList) (out := out.toArray.reverse) isl
  have ylen : ((out.reverse.map textOf).map V.str).length ≤ sizeLine := by rw [List.length_map, outP.length_eq]; exact line
  have eo : out.reverse.toArray = out.toArray.reverse := by simp
  have laid := fun kept => J.laid (t' := t1) kept (Nat.le_refl h1.objs.size) (show ObjOk X.prog X.w _ _ _ (.lst ((out.reverse.map textOf).map V.str)) from ⟨ylen, out.reverse, ep2, vals_of_strs outT, by rw [eo]; exact at2⟩)
  refine wpAny_pure ⟨_, rfl, .ref h1.objs.size, _, laid fun b u eb => ?_, rfl, fin _ _ outP (J.hok.fresh (Nat.le_refl _))⟩
  have small := Heap.lt_size eb
  rw [sortedHeap_old (Nat.ne_of_lt small) (by rw [size_push']; exact Nat.lt_succ_of_lt small)]
  exact Heap.get?_push_of_some _ eb
end Ox

/-! Own layer, fifth part: tuple(d), a walk over a list or a tuple, dicts of data compared. -/
namespace Ox
open PySem PySem.Spec PyProof.Rows L2
/-! ### tuple(d) -/
section
variable {prog : Program} {w : World} {A : Around} {s : Shared} {E : Value → Shared → Prop}
theorem code_tuple_new_dict {K : Type} [DecidableEq K] {knd : KeyKind prog w K} {kvs : List (K × Value)} {ep : Nat} {d : Addr} {Q₁ : Value → Shared → Prop} (lo : (d == sysModules) = false) (hh : A.handled = none) (hat : s.heap.DictAt knd d kvs ep) (hn : kvs.length ≤ sizeLine)
    (h : ∀ (h' : Heap) (tk : Nat) (acc : Array Value), (∀ b o, s.heap.get? b = some o → h'.get? b = some o) → ItemsOf (fun i v => ∃ k x, kvs[i]? = some (k, x) ∧ knd.is k v = true) acc kvs.length →
      Q₁ (.ref h'.objs.size) { s with heap := h'.push { cls := .type "tuple", data := .seq acc }, toks := tk }) :
    codeAny (model prog w) A (.call (.builtin "tuple.__new__") ⟨[.type "tuple", .ref d], []⟩) (wants Q₁ E) s := by
  refine codeAny_of_tree ?_
  show wpAny _ A.in1 (do checkBuiltinCall "tuple.__new__" ⟨[.type "tuple", .ref d], []⟩; again (.builtin "tuple.__new__" ⟨[.type "tuple", .ref d], []⟩)) _ _ s
  refine wpAny_bind (wpAny_of_eq (F.newCall_tuple_1 _) (wpAny_pure ⟨plainId_quiet F.plain_tuple_new _, codeAny_builtin F.entry_tuple_new ?_⟩))
  rw [Around.under_plainId F.plain_tuple_new _]
  have hsub := sub_tuple_self
  have hinit := init_tuple_lookup
  have hmh := madeHere_tuple
  have hTI : s.TypeIs (.ref d) "dict" := hat.dictOf.typeIs
  have hh1 : A.in1.handled = none := hh
  wp_walk using wpAny_typeOf hTI, PySem.W.kdu_collect (A := A.in1) (PySem.W.kdl_dict (knd := knd) (kvs := kvs) (ep := ep) lo) hh1 hat hn
  intro h' tk acc hk hacc
  show wpAny _ _ (Builtin.Tuple.tupleExact acc.toList.toArray >>= fun v => ret v) _ _ _
  unfold Builtin.Tuple.tupleExact
  refine wpAny_bind (wpAny_newObj_type ?_ (by show acc.toList.toArray.size ≤ sizeLine; simp only [Array.toArray_toList]; rw [hacc.1]; exact hn))
  refine wpAny_pure ?_
  have e : acc.toList.toArray = acc := by simp
  rw [e]
  exact h h' tk acc hk hacc
theorem call_tuple_dict {K : Type} [DecidableEq K] {knd : KeyKind prog w K} {kvs : List (K × Value)} {ep : Nat} {d : Addr} {Q : Value → Shared → Prop} (lo : (d == sysModules) = false) (hh : A.handled = none) (hat : s.heap.DictAt knd d kvs ep) (hn : kvs.length ≤ sizeLine)
    (hQ : ∀ (h' : Heap) (tk : Nat) (acc : Array Value), (∀ b o, s.heap.get? b = some o → h'.get? b = some o) → ItemsOf (fun i v => ∃ k x, kvs[i]? = some (k, x) ∧ knd.is k v = true) acc kvs.length →
      Q (.ref h'.objs.size) { s with heap := h'.push { cls := .type "tuple", data := .seq acc }, toks := tk }) :
    wpAny (model prog w) A (call (.type "tuple") [.ref d]) Q E s := by
  refine callType_codes (Q₁ := fun obj s₁ => s₁.TypeIs obj "tuple" ∧ Q obj s₁) F.called_tuple (F.typeCall_tuple_1 _) F.entry_object_init
    (code_tuple_new_dict (A := A.in1) lo hh hat hn fun h' tk acc hk hacc => ⟨⟨_, Heap.get?_push_size _ rfl, rfl⟩, hQ h' tk acc hk hacc⟩) fun obj s₁ h₁ => ?_
  exact ⟨h₁.1, F.args_object_init_2 obj _, object_init_meets F.called_tuple.init.lookup F.called_tuple.made (by decide) prog w A.in1 _ s₁ ⟨h₁.1, rfl, h₁.2⟩⟩
end
def rTupD : List V → Hp → VK → Prop := fun xs H Q => ∃ p kvs, xs = [.ref p] ∧ Rd H p (.dK kvs) ∧ ∀ q, H q = none → Q (.ref q) (upd H q (.tup (kvs.map fun kv => kV kv.1)))
theorem call_tupD {X : Cx} (hc : X.calm = true) : CallR X (.type "tuple") rTupD := by
  intro pins s σ H xs us Q I r h
  obtain ⟨p, kvs, e, hk, q⟩ := h
  subst e
  obtain ⟨u, eu, rx⟩ := vals1 r
  subst eu
  obtain rfl : u = Value.ref p := rx
  obtain ⟨z, lo, vs, rk, hd⟩ := dk_rd I.hok hk
  obtain ⟨ep, hat⟩ := hd.dictAt
  have hl : kvs.length = vs.length := Paired.length rk
  have hz : vs.length ≤ sizeLine := by rw [← hl]; exact z
  refine call_tuple_dict (knd := mixKind X.prog X.w) lo (I.ok.hd hc) hat hz fun h' tk acc hkeep hacc => ?_
  have I2 : Inv X pins σ H { s with heap := h', toks := tk } := I.kept hkeep
  refine ⟨.ref h'.objs.size, upd H h'.objs.size (.tup (kvs.map fun kv => kV kv.1)), ?_, rfl, q _ (I2.hok.fresh (Nat.le_refl _))⟩
  refine I2.laid (t' := tk) (fun b o e => Heap.get?_push_of_some _ e) (Nat.le_refl _) (show ObjOk X.prog X.w _ _ _ (.tup (kvs.map fun kv => kV kv.1)) from ?_)
  refine ⟨?_, acc.toList, ?_, ?_⟩
  · rw [List.length_map, hl]; exact hz
  · have el : acc.toList.length = acc.size := by simp
    refine vals_of_at (by rw [List.length_map, el, hacc.1, hl]) fun j x w h1 h2 => ?_
    obtain ⟨k, y, hky, hi⟩ := hacc.2 j w (by rw [← Array.getElem?_toList]; exact h2)
    have e1 : (kvs.map (·.1))[j]? = some k := by
      rw [KV.keys rk, List.getElem?_map, hky] <;> rfl
    have e2 : (kvs.map fun kv => kV kv.1)[j]? = some (kV k) := by
      have e3 : (kvs.map fun kv => kV kv.1) = (kvs.map (·.1)).map kV := by rw [List.map_map] <;> rfl
      rw [e3, List.getElem?_map, e1] <;> rfl
    rw [e2] at h1
    cases h1
    exact keyIs_rel hi
  · exact ⟨_, Heap.get?_push_size _ rfl, rfl, by simp⟩
end Ox
namespace Ox
open PySem PySem.Spec PyProof.Rows L2
/-! ### a list or a tuple, walked -/
def iSeq (K : PySem.W.Frag) (te : TE) : TI := fun σ H R => te σ H fun x H1 => ∃ a, x = .ref a ∧ (((∃ xs, SqL K H1 a xs) ∧ R (Itl K a) H1) ∨ ((∃ xs, SqT K H1 a xs) ∧ R (Itt K a) H1))
theorem pi_seq {X : Cx} {tg l : Expr} {tl : TE} (hl : PE X l tl) : PI X tg l (iSeq X.K tl) := by
  refine ⟨fun pins s σ H R I h => ?_⟩
  refine thn (hl.run pins s σ H _ I h) fun v s1 ⟨x, H1, I1, r1, q1⟩ => ?_
  obtain ⟨a, e, ⟨⟨xs, hq⟩, q⟩ | ⟨⟨xs, hq⟩, q⟩⟩ := q1
  · subst e
    cases r1
    obtain ⟨its, rv, p, hz⟩ := I1.list hq
    refine wpAny_pyIter_list p.isList ?_
    refine ⟨s1.heap.objs.size, [s1.heap.objs.size], _, _, H1, rfl, I1.kept (t' := s1.toks) fun b o e => Heap.get?_push_of_some _ e, turn_list a _, ⟨_, Heap.get?_push_size _ rfl, rfl, rfl⟩, fun b hb => ?_, q⟩
    have e : b = s1.heap.objs.size := by simpa using hb
    subst e
    exact I1.fpOk (Nat.le_refl _) (I1.hok.fresh (Nat.le_refl _))
  · subst e
    cases r1
    obtain ⟨its, rv, p, hz⟩ := I1.tuple hq
    refine wpAny_pyIter_tuple (show s1.heap.IsTuple a its.toArray from p) ?_
    refine ⟨s1.heap.objs.size, [s1.heap.objs.size], _, _, H1, rfl, I1.kept (t' := s1.toks) fun b o e => Heap.get?_push_of_some _ e, turn_tuple a _, ⟨_, Heap.get?_push_size _ rfl, rfl, rfl⟩, fun b hb => ?_, q⟩
    have e : b = s1.heap.objs.size := by simpa using hb
    subst e
    exact I1.fpOk (Nat.le_refl _) (I1.hok.fresh (Nat.le_refl _))
def RunSq (K : PySem.W.Frag) (R : It → Hp → Prop) (x : V) (H : Hp) : Prop := ∃ a, x = .ref a ∧ (((∃ xs, SqL K H a xs) ∧ R (Itl K a) H) ∨ ((∃ xs, SqT K H a xs) ∧ R (Itt K a) H))
section
variable {σ : L2.St} {H : Hp} {te : TE} {R : It → Hp → Prop} {K : PySem.W.Frag} {n : L2.St → Hp → Prop} {r : VK} {b c : L2.St → Hp → Prop} {tb : TS} {g : TG} {p : Addr}
theorem x_iSq (h : te σ H fun x H1 => RunSq K R x H1) : iSeq K te σ H R := h
def LpSq (K : PySem.W.Frag) (g : TG) (tb : TS) (D : Ends) (σ : L2.St) (x : V) (H : Hp) : Prop := RunSq K (fun J H1 => Lp J g tb D σ H1) x H
theorem x_forSq (h : te σ H fun x H1 => LpSq K g tb ⟨n, r, b, c⟩ σ x H1) : tFor (iSeq K te) g tb ⟨n, r, b, c⟩ σ H := h
theorem runSq {xs : List V} (h : SqR K H p xs) (q : ∀ (J : It) (G : Hp → Prop), (∀ H', L2.Same H H' → G H') → L2.Walk J xs.length G (L2.YAt xs) → R J H) : RunSq K R (.ref p) H := by
  rcases h with h | h
  · exact ⟨p, rfl, .inl ⟨⟨xs, h⟩, q _ (fun H' => SqL K H' p xs) (fun H' s => s.seq h) walk_list⟩⟩
  · exact ⟨p, rfl, .inr ⟨⟨xs, h⟩, q _ (fun H' => SqT K H' p xs) (fun H' s => same_t s h) walk_tup⟩⟩
end
end Ox
namespace Ox
open PySem PySem.Spec PyProof.Rows L2
/-! ### dicts compared, their values data -/
def DvAt (K : PySem.W.Frag) (H : Hp) (ks : List (Key × V)) (f : Key → PyData) : Prop := ∀ p ∈ ks, Dp K H p.2 (f p.1) ∧ SeqAt.shaped (f p.1) = true
def eqKB (ks ls : List (Key × V)) (f g : Key → PyData) : Bool := (ks.length == ls.length) && ks.all fun p => (valV ls p.1).isSome && PyData.eqv (f p.1) (g p.1)
def rEqDD (K : PySem.W.Frag) : R2 := fun x y H Q => ∃ a b ks ls f g, x = .ref a ∧ y = .ref b ∧ Rd H a (.dK ks) ∧ Rd H b (.dK ls) ∧ DvAt K H ks f ∧ DvAt K H ls g ∧ Q (.bl (eqKB ks ls f g)) H
def rNeDD (K : PySem.W.Frag) : R2 := fun x y H Q => ∃ a b ks ls f g, x = .ref a ∧ y = .ref b ∧ Rd H a (.dK ks) ∧ Rd H b (.dK ls) ∧ DvAt K H ks f ∧ DvAt K H ls g ∧ Q (.bl (!eqKB ks ls f g)) H
theorem valV_in {kvs : List (Key × V)} {k : Key} {v : V} (h : valV kvs k = some v) : (k, v) ∈ kvs := valV_mem h
theorem hitsD {X : Cx} {pins : List (Addr × Obj)} {σ : L2.St} {H : Hp} {s : Shared} (I : Inv X pins σ H s) {A : Around} (hu : A.units + 64 < cLine) {ls : List (Key × V)} {vb : List (Key × Value)} (rb : KV ls vb) {g f : Key → PyData} (hg : DvAt X.K H ls g) {ks : List (Key × V)} {va : List (Key × Value)} (ra : KV ks va) :
    DvAt X.K H ks f → PySem.W.KeqHits A s vb va (ks.all fun p => (valV ls p.1).isSome && PyData.eqv (f p.1) (g p.1)) := by
  unfold KV at ra
  induction ra with
  | nil => intro _; exact .nil
  | @cons p q ps qs h t ih =>
    intro hp
    obtain ⟨h1, h2⟩ := h
    obtain ⟨k, v⟩ := q
    have h1' : p.1 = k := h1
    have hd := hp p List.mem_cons_self
    cases e : valV ls p.1 with
    | none =>
      have rr : RelO none (valueAt vb p.1) := by rw [← e]; exact rb.val p.1
      have hn : valueAt vb k = none := by
        rw [← h1']
        cases hq : valueAt vb p.1 with
        | none => rfl
        | some y => rw [hq] at rr; exact rr.elim
      have eb : ((p :: ps).all fun p => (valV ls p.1).isSome && PyData.eqv (f p.1) (g p.1)) = false := by
        rw [List.all_cons, e]
        rfl
      rw [eb]
      exact .miss hn
    | some z =>
      have rr : RelO (some z) (valueAt vb p.1) := by rw [← e]; exact rb.val p.1
      obtain ⟨y, hy, ry⟩ := rr.some_of
      rw [h1'] at hy
      have hz := hg (p.1, z) (valV_in e)
      obtain ⟨as, r1⟩ := Dp.reads I (f p.1) p.2 v hd.1 h2
      obtain ⟨bs, r2⟩ := Dp.reads I (g p.1) z y hz.1 ry
      have eb : ((p :: ps).all fun p => (valV ls p.1).isSome && PyData.eqv (f p.1) (g p.1)) = (PyData.eqv (f p.1) (g p.1) && ps.all fun p => (valV ls p.1).isSome && PyData.eqv (f p.1) (g p.1)) := by
        rw [List.all_cons, e]
        rfl
      rw [eb]
      exact .hit hy (SeqAt.eqAt_reads _ _ A s v y as bs r1 r2 (SeqAt.canLay_of_shaped hd.2) (SeqAt.canLay_of_shaped hz.2) (SeqAt.room_of_shaped hd.2 hu)) (ih fun p' hm => hp p' (List.mem_cons_of_mem _ hm))
section
variable {X : Cx}
theorem op_eqDD (hu : X.A.units + 65 < cLine) : OpR X (compareOp .Eq) (rEqDD X.K) := by
  intro pins s σ H x y v u Q I rx ry h
  obtain ⟨a, b, ks, ls, f, g, rfl, rfl, ea, eb, hf, hg, q⟩ := h
  obtain rfl : v = Value.ref a := rx
  obtain rfl : u = Value.ref b := ry
  obtain ⟨_, ya, va, ra, da⟩ := dk_rd I.hok ea
  obtain ⟨_, yb, vb, rb, db⟩ := dk_rd I.hok eb
  have e : eqKB ks ls f g = (va.length == vb.length && ks.all fun p => (valV ls p.1).isSome && PyData.eqv (f p.1) (g p.1)) := by
    unfold eqKB
    rw [Paired.length ra, Paired.length rb]
  rw [e] at q
  exact PySem.W.keq_eq (knd := mixKind X.prog X.w) ya yb da db (by omega) (fun _ => hitsD I (by show X.A.units + 1 + 64 < cLine; omega) rb hg ra hf) ⟨.bl _, H, I, rfl, q⟩
theorem op_neDD (hu : X.A.units + 65 < cLine) : OpR X (compareOp .NotEq) (rNeDD X.K) := by
  intro pins s σ H x y v u Q I rx ry h
  obtain ⟨a, b, ks, ls, f, g, rfl, rfl, ea, eb, hf, hg, q⟩ := h
  obtain rfl : v = Value.ref a := rx
  obtain rfl : u = Value.ref b := ry
  obtain ⟨_, ya, va, ra, da⟩ := dk_rd I.hok ea
  obtain ⟨_, yb, vb, rb, db⟩ := dk_rd I.hok eb
  have e : eqKB ks ls f g = (va.length == vb.length && ks.all fun p => (valV ls p.1).isSome && PyData.eqv (f p.1) (g p.1)) := by
    unfold eqKB
    rw [Paired.length ra, Paired.length rb]
  rw [e] at q
  exact PySem.W.keq_ne (knd := mixKind X.prog X.w) ya yb da db (by omega) (fun _ => hitsD I (by show X.A.units + 1 + 64 < cLine; omega) rb hg ra hf) ⟨.bl _, H, I, rfl, q⟩
end
/-! rows of texts under text keys -/
def ssD (ws : List Str) : PyData := .tuple (ws.map PyData.str)
theorem dpAll_strs {K : PySem.W.Frag} {H : Hp} : ∀ ws : List Str, DpAll K H (ws.map V.str) (ws.map PyData.str)
  | [] => .nil
  | z :: r => .cons (.str z) (dpAll_strs r)
end Ox
namespace Ox
open PySem PySem.Spec PyProof.Rows L2
theorem hu65 {A : Around} {k : Nat} (r : Room k A) : A.units + 65 < cLine := by have := r.un; omega
end Ox
namespace Ox
open PySem PySem.Spec PyProof.Rows L2
theorem wipe_one {σ : L2.St} {n : Nat} {v : Option V} : wipe ((wipe σ [n]).set n v) [n] = wipe σ [n] := by
  show ((σ.set n none).set n v).set n none = σ.set n none
  rw [List.set_set, List.set_set]
theorem filt_snoc {α : Type} {as : List α} {p : α → Bool} {i : Nat} {a : α} (h : as[i]? = some a) : (as.take (i + 1)).filter p = (as.take i).filter p ++ (if p a = true then [a] else []) := by
  have e : as.take (i + 1) = as.take i ++ [a] := by rw [List.take_succ, h]; rfl
  rw [e, List.filter_append, List.filter_cons]
  rfl
/-- a list comprehension over what c makes of the items of as: those with p, f of them -/
theorem lcFM {α : Type} {as : List α} {c : α → V} {J : It} {G : Hp → Prop} {n : Nat} {σ : L2.St} {H : Hp} {D : Addr} {Qd : Hp → Prop} {tt : TT} {te : TE} (w : L2.Walk J (as.map c).length G (L2.YAt (as.map c))) (hG : ∀ H', L2.Same H H' → G H') (hD : H D = none) (p : α → Bool) (f : α → V) (hl : as.length ≤ 10000)
    (ht : ∀ a ∈ as, ∀ H', L2.Same H H' → ∀ R : Bool → Hp → Prop, (∀ H'', L2.Same H' H'' → R (p a) H'') → tt ((wipe σ [n]).set n (some (c a))) H' R)
    (he : ∀ a ∈ as, p a = true → ∀ H', L2.Same H H' → ∀ Qk : VK, (∀ H'', L2.Same H' H'' → Qk (f a) H'') → te ((wipe σ [n]).set n (some (c a))) H' Qk)
    (k : ∀ H', L2.Same H H' → H' D = some (.lst ((as.filter p).map f)) → Qd H') : LcP J (gName n) tt te [n] σ D Qd H := by
  refine lc_by w (fun i H' => L2.Same H H' ∧ H' D = some (.lst (((as.take i).filter p).map f))) ⟨same_new hD, upd_same⟩ (fun i H' _ h => hG H' h.1) ?_ ?_
  · rintro i x H1 H2 hi ⟨s1, h1⟩ ⟨rfl, hx⟩
    rw [List.getElem?_map] at hx
    cases ha : as[i]? with
    | none => rw [ha] at hx; cases hx
    | some a =>
      rw [ha] at hx
      have ex : c a = x := Option.some.inj hx
      subst ex
      have hm := List.mem_of_getElem? ha
      refine x_g1 ⟨wipe_one, ?_⟩
      refine ht a hm H2 s1 _ fun H3 s3 => ?_
      have fl := filt_snoc (p := p) ha
      cases hp : p a with
      | true =>
        rw [hp, if_pos rfl] at fl
        refine x_T ?_
        refine he a hm hp H3 (s1.trans s3) _ fun H4 s4 => ?_
        have len : ((as.take i).filter p).length ≤ 10000 - 1 := by
          have := List.length_filter_le p (as.take i)
          rw [List.length_take] at this
          rw [List.length_map] at hi
          omega
        refine ⟨_, s4 _ _ (s3 _ _ h1), sz_lt (by rw [List.length_map]; omega), same_upd ((s1.trans s3).trans s4) hD, ?_⟩
        rw [upd_same, fl, List.map_append]
        rfl
      | false =>
        rw [hp, if_neg Bool.false_ne_true, List.append_nil] at fl
        refine x_F ?_
        refine ⟨s1.trans s3, ?_⟩
        rw [fl]
        exact s3 _ _ h1
  · rintro H1 ⟨s1, h1⟩
    rw [List.length_map, List.take_length] at h1
    exact k H1 s1 h1
/-- a dict comprehension: of those with p, the text kf and f of them; the texts are all different -/
theorem dcFM {α β : Type} {as : List α} {c : α → V} {g : β → V} {J : It} {G : Hp → Prop} {n : Nat} {σ : L2.St} {H : Hp} {D : Addr} {Qd : Hp → Prop} {tt : TT} {tk tv : TE} (w : L2.Walk J (as.map c).length G (L2.YAt (as.map c))) (hG : ∀ H', L2.Same H H' → G H') (hD : H D = none) (p : α → Bool) (kf : α → Str) (f : α → β) (hl : as.length ≤ 9999)
    (nd : ((as.filter p).map kf).Nodup)
    (ht : ∀ a ∈ as, ∀ H', L2.Same H H' → ∀ R : Bool → Hp → Prop, (∀ H'', L2.Same H' H'' → R (p a) H'') → tt ((wipe σ [n]).set n (some (c a))) H' R)
    (hk : ∀ a ∈ as, p a = true → ∀ H', L2.Same H H' → ∀ Qk : VK, (∀ H'', L2.Same H' H'' → Qk (.str (kf a)) H'') → tk ((wipe σ [n]).set n (some (c a))) H' Qk)
    (he : ∀ a ∈ as, p a = true → ∀ H', L2.Same H H' → ∀ Qk : VK, (∀ H'', L2.Same H' H'' → Qk (g (f a)) H'') → tv ((wipe σ [n]).set n (some (c a))) H' Qk)
    (k : ∀ H', L2.Same H H' → H' D = some (.dK (strK g ((as.filter p).map fun a => (kf a, f a)))) → Qd H') : DcP J (gName n) tt tk tv [n] σ D Qd H := by
  refine dc_by w (fun i H' => L2.Same H H' ∧ H' D = some (.dK (strK g (((as.take i).filter p).map fun a => (kf a, f a))))) ⟨same_new hD, upd_same⟩ (fun i H' _ h => hG H' h.1) ?_ ?_
  · rintro i x H1 H2 hi ⟨s1, h1⟩ ⟨rfl, hx⟩
    rw [List.getElem?_map] at hx
    cases ha : as[i]? with
    | none => rw [ha] at hx; cases hx
    | some a =>
      rw [ha] at hx
      have ex : c a = x := Option.some.inj hx
      subst ex
      have hm := List.mem_of_getElem? ha
      refine x_g1 ⟨wipe_one, ?_⟩
      refine ht a hm H2 s1 _ fun H3 s3 => ?_
      have fl := filt_snoc (p := p) ha
      cases hp : p a with
      | true =>
        rw [hp, if_pos rfl] at fl
        refine x_T ?_
        refine hk a hm hp H3 (s1.trans s3) _ fun H4 s4 => ?_
        refine he a hm hp H4 ((s1.trans s3).trans s4) _ fun H5 s5 => ?_
        have len : ((as.take i).filter p).length ≤ 9998 := by
          have := List.length_filter_le p (as.take i)
          rw [List.length_take] at this
          rw [List.length_map] at hi
          omega
        have fresh : kf a ∉ (((as.take i).filter p).map fun a => (kf a, f a)).map (·.1) := fun hmem => by
          rw [List.map_map] at hmem
          have e1 : as = as.take (i + 1) ++ as.drop (i + 1) := (List.take_append_drop _ _).symm
          rw [e1, List.filter_append, fl, List.map_append, List.map_append] at nd
          exact (List.nodup_append.mp (List.nodup_append.mp nd).1).2.2 (kf a) hmem (kf a) List.mem_cons_self rfl
        refine ⟨_, Sum.inr (kf a), rfl, s5 _ _ (s4 _ _ (s3 _ _ h1)), sz_lt (by rw [List.length_map, List.length_map]; omega), same_upd (((s1.trans s3).trans s4).trans s5) hD, ?_⟩
        rw [upd_same, strK_put, putL_new _ fresh, fl, List.map_append]
        rfl
      | false =>
        rw [hp, if_neg Bool.false_ne_true, List.append_nil] at fl
        refine x_F ?_
        refine ⟨s1.trans s3, ?_⟩
        rw [fl]
        exact s3 _ _ h1
  · rintro H1 ⟨s1, h1⟩
    rw [List.length_map, List.take_length] at h1
    exact k H1 s1 h1
/-! texts compared -/
theorem eqvAll_strs : ∀ xs ys : List Str, PyData.eqvAll (xs.map PyData.str) (ys.map PyData.str) = decide (xs = ys)
  | [], [] => rfl
  | [], _ :: _ => rfl
  | _ :: _, [] => rfl
  | x :: r, y :: t => by
    show (PyData.eqv (.str x) (.str y) && PyData.eqvAll (r.map PyData.str) (t.map PyData.str)) = _
    rw [eqvAll_strs r t]
    have e : PyData.eqv (.str x) (.str y) = decide (x = y) := by
      show (x == y) = _
      by_cases h : x = y
      · rw [h]; simp
      · have h2 : (x == y) = false := by simpa using h
        rw [h2]
        exact (decide_eq_false h).symm
    rw [e]
    by_cases h : x = y
    · by_cases h2 : r = t
      · simp [h, h2]
      · simp [h, h2]
    · simp [h]
theorem strs_lay : ∀ xs : List Str, (∀ z ∈ xs, PyData.strOk z = true) → PyData.canLayAll0 (xs.map PyData.str) = true ∧ PyData.depthAll (xs.map PyData.str) = 0
  | [], _ => ⟨rfl, rfl⟩
  | x :: r, h => by
    obtain ⟨h1, h2⟩ := strs_lay r fun y hy => h y (List.mem_cons_of_mem _ hy)
    have h3 := h x List.mem_cons_self
    rw [List.map_cons]
    refine ⟨?_, ?_⟩
    · show (PyData.strOk x && PyData.canLayAll0 (r.map PyData.str)) = true
      rw [h1, h3]
      rfl
    · show max 0 (PyData.depthAll (r.map PyData.str)) = 0
      rw [h2]
      rfl
theorem ssD_shaped {xs : List Str} (h : ∀ z ∈ xs, PyData.strOk z = true) : SeqAt.shaped (ssD xs) = true := by
  obtain ⟨h1, h2⟩ := strs_lay xs h
  unfold SeqAt.shaped
  have e1 : PyData.canLay0 (ssD xs) = true := h1
  have e2 : PyData.depth (ssD xs) ≤ 64 := by
    show PyData.depthAll (xs.map PyData.str) + 1 ≤ 64
    rw [h2]
    decide
  rw [e1, decide_eq_true e2]
  rfl
theorem ssL_shaped {xs : List Str} (h : ∀ z ∈ xs, PyData.strOk z = true) : SeqAt.shaped (.list (xs.map PyData.str)) = true := ssD_shaped h
theorem ssD_eqv (xs ys : List Str) : PyData.eqv (ssD xs) (ssD ys) = decide (xs = ys) := eqvAll_strs xs ys
section
variable {K : PySem.W.Frag} {H : Hp} {Q : VK} {a b : Addr} {xs ys : List Str}
theorem x_neTS (ha : SqT K H a (xs.map V.str)) (hb : SqT K H b (ys.map V.str)) (hx : ∀ z ∈ xs, PyData.strOk z = true) (hy : ∀ z ∈ ys, PyData.strOk z = true) (q : Q (.bl (!decide (xs = ys))) H) : rNeD K (.ref a) (.ref b) H Q :=
  ⟨_, _, .tup ha (dpAll_strs xs), .tup hb (dpAll_strs ys), ssD_shaped hx, ssD_shaped hy, by rw [show PyData.eqv (.tuple (xs.map PyData.str)) (.tuple (ys.map PyData.str)) = decide (xs = ys) from ssD_eqv xs ys]; exact q⟩
theorem x_neLS (ha : SqL K H a (xs.map V.str)) (hb : SqL K H b (ys.map V.str)) (hx : ∀ z ∈ xs, PyData.strOk z = true) (hy : ∀ z ∈ ys, PyData.strOk z = true) (q : Q (.bl (!decide (xs = ys))) H) : rNeD K (.ref a) (.ref b) H Q :=
  ⟨_, _, .lst ha (dpAll_strs xs), .lst hb (dpAll_strs ys), ssL_shaped hx, ssL_shaped hy, by rw [show PyData.eqv (.list (xs.map PyData.str)) (.list (ys.map PyData.str)) = decide (xs = ys) from eqvAll_strs xs ys]; exact q⟩
theorem x_eqTS (ha : SqT K H a (xs.map V.str)) (hb : SqT K H b (ys.map V.str)) (hx : ∀ z ∈ xs, PyData.strOk z = true) (hy : ∀ z ∈ ys, PyData.strOk z = true) (q : Q (.bl (decide (xs = ys))) H) : rEqD K (.ref a) (.ref b) H Q :=
  ⟨_, _, .tup ha (dpAll_strs xs), .tup hb (dpAll_strs ys), ssD_shaped hx, ssD_shaped hy, by rw [show PyData.eqv (.tuple (xs.map PyData.str)) (.tuple (ys.map PyData.str)) = decide (xs = ys) from ssD_eqv xs ys]; exact q⟩
theorem x_eqLS (ha : SqL K H a (xs.map V.str)) (hb : SqL K H b (ys.map V.str)) (hx : ∀ z ∈ xs, PyData.strOk z = true) (hy : ∀ z ∈ ys, PyData.strOk z = true) (q : Q (.bl (decide (xs = ys))) H) : rEqD K (.ref a) (.ref b) H Q :=
  ⟨_, _, .lst ha (dpAll_strs xs), .lst hb (dpAll_strs ys), ssL_shaped hx, ssL_shaped hy, by rw [show PyData.eqv (.list (xs.map PyData.str)) (.list (ys.map PyData.str)) = decide (xs = ys) from eqvAll_strs xs ys]; exact q⟩
theorem x_tupD {p : Addr} {kvs : List (Key × V)} (h : Rd H p (.dK kvs)) (q : ∀ l, H l = none → Q (.ref l) (upd H l (.tup (kvs.map fun kv => kV kv.1)))) : rTupD [V.ref p] H Q := ⟨p, kvs, rfl, h, q⟩
end
end Ox

/-! Own layer: sorted(a list of tuples of whole numbers, of any lengths, the empty one ahead). -/
namespace Ox
open PySem PySem.Spec PyProof.Rows L2
theorem lex_asym : ∀ a b : List Int, HT.lexLt a b = true → HT.lexLt b a = false
  | [], [], h => by cases h
  | [], _ :: _, _ => rfl
  | _ :: _, [], h => by cases h
  | x :: r, y :: t, h => by
    rw [HT.lexLt_cons] at h ⊢
    by_cases e : x = y
    · rw [if_pos e] at h
      rw [if_pos e.symm]
      exact lex_asym r t h
    · rw [if_neg e] at h
      rw [if_neg (fun q => e q.symm)]
      have := of_decide_eq_true h
      exact decide_eq_false (by omega)
theorem lex_trans : ∀ a b c : List Int, HT.lexLt b a = false → HT.lexLt c b = false → HT.lexLt c a = false
  | [], _, [], _, _ => rfl
  | [], [], _ :: _, _, _ => rfl
  | [], _ :: _, _ :: _, _, _ => rfl
  | _ :: _, [], _, h, _ => by cases h
  | _ :: _, _ :: _, [], _, h => by cases h
  | x :: r, y :: t, z :: u, h1, h2 => by
    rw [HT.lexLt_cons] at h1 h2 ⊢
    by_cases e1 : y = x
    · rw [if_pos e1] at h1
      by_cases e2 : z = y
      · rw [if_pos e2] at h2
        rw [if_pos (e2.trans e1)]
        exact lex_trans r t u h1 h2
      · rw [if_neg e2] at h2
        have := of_decide_eq_false h2
        rw [if_neg (by omega)]
        exact decide_eq_false (by omega)
    · rw [if_neg e1] at h1
      have a1 := of_decide_eq_false h1
      by_cases e2 : z = y
      · rw [if_neg (by omega)]
        exact decide_eq_false (by omega)
      · rw [if_neg e2] at h2
        have := of_decide_eq_false h2
        rw [if_neg (by omega)]
        exact decide_eq_false (by omega)
theorem lex_anti : ∀ a b : List Int, HT.lexLt b a = false → HT.lexLt a b = false → a = b
  | [], [], _, _ => rfl
  | [], _ :: _, _, h => by cases h
  | _ :: _, [], h, _ => by cases h
  | x :: r, y :: t, h1, h2 => by
    rw [HT.lexLt_cons] at h1 h2
    by_cases e : x = y
    · rw [if_pos e.symm] at h1
      rw [if_pos e] at h2
      rw [e, lex_anti r t h1 h2]
    · rw [if_neg (fun q => e q.symm)] at h1
      rw [if_neg e] at h2
      have := of_decide_eq_false h1
      have := of_decide_eq_false h2
      omega
theorem swo_lexL (k : Value → List Int) : SrtO.Swo fun v u => HT.lexLt (k v) (k u) := ⟨fun x y h => lex_asym _ _ h, fun x y z h1 h2 => lex_trans _ _ _ h1 h2⟩
/-- a tuple of the ints ns -/
def TupI (h : Heap) (v : Value) (ns : List Int) : Prop := ∃ a its, v = .ref a ∧ IsTup h a its ∧ IntsAre its.toList ns
theorem TupI.keep {h h' : Heap} {v : Value} {ns : List Int} (t : TupI h v ns) (k : ∀ b o, h.get? b = some o → o.cls = .type "tuple" → h'.get? b = some o) : TupI h' v ns := by
  obtain ⟨a, its, e, ⟨o, ho, hc, hd⟩, hi⟩ := t
  exact ⟨a, its, e, ⟨o, k a o ho hc, hc, hd⟩, hi⟩
section
variable {prog : Program} {w : World} {A : Around} {s : Shared}
/-- the first items of tuples, where they have any -/
theorem firstsG {M : Model} {E : Value → Shared → Prop} : ∀ (vs : List Value) {Q : List (Option Value) → Shared → Prop}, (∀ v ∈ vs, ∃ ns, TupI s.heap v ns) → (∀ gs : List (Option Value), gs.length = vs.length → (∀ v r, vs = v :: r → TupI s.heap v [] → ∃ g, gs = none :: g) → Q gs s) → wpAny M A (vs.mapM firstOfTuple') Q E s
  | [], _, _, h => by
    rw [List.mapM_nil]
    exact wpAny_pure (h [] rfl fun v r e => by cases e)
  | v :: vs, Q, t, h => by
    obtain ⟨ns, a, its, rfl, ⟨o, ho, hc, n, hd⟩, hi⟩ := t v List.mem_cons_self
    rw [List.mapM_cons]
    refine wpAny_bind ?_
    rw [PySem.W.kas_first_eq]
    refine wpAny_bind (PySem.W.Looks.here (show PySem.W.Looks M s.heap (typeOf (.ref a)) o.cls from (PySem.W.Looks.ld ho).andThen .now) ?_)
    rw [hc, if_neg (by first | decide | simp)]
    refine wpAny_bind (listItems_at ho hd (wpAny_pure ?_))
    refine wpAny_bind (firstsG vs (fun v hv => t v (List.mem_cons_of_mem _ hv)) fun gs hl _ => ?_)
    refine wpAny_pure (h (its[0]? :: gs) (by simp [hl]) fun v r e te => ?_)
    cases e
    obtain ⟨a', its', e', ⟨o', ho', hc', n', hd'⟩, hi'⟩ := te
    cases e'
    rw [ho] at ho'
    cases ho'
    rw [hd] at hd'
    cases hd'
    have : its.toList = [] := by
      cases hq : its.toList with
      | nil => rfl
      | cons x y => rw [hq] at hi'; cases hi'
    have e0 : its[0]? = none := by
      rw [← Array.getElem?_toList, this]
      rfl
    exact ⟨gs, by rw [e0]⟩
theorem kindLots {E : Value → Shared → Prop} {Q : SortKind → Shared → Prop} {v0 : Value} {r : List Value} (h0 : TupI s.heap v0 []) (ht : ∀ v ∈ v0 :: r, ∃ ns, TupI s.heap v ns) (h : Q oneType' s) : wpAny (model prog w) A (keyKind' (v0 :: r).toArray) Q E s := by
  rw [PyProof.Rows.kat_kind_eq, List.mapM_toArray, map_eq_pure_bind]
  refine wpAny_bind (wpAny_bind (firstsG (v0 :: r) ht fun gs hl hg => ?_))
  obtain ⟨g, rfl⟩ := hg v0 r rfl h0
  refine wpAny_pure ?_
  have hall : ((none :: g).toArray.all fun x : Option Value => x.isSome) = false := by simp
  rw [hall, if_neg Bool.false_ne_true]
  have h1 : (((none :: g).toArray[0]?).bind id : Option Value).isSome = false := by simp
  rw [h1, if_neg Bool.false_ne_true, oneTypeOnly'_eq, List.mapM_toArray, map_eq_pure_bind]
  refine wpAny_bind (wpAny_bind (wpAny_bind (PySem.W.kas_mapM (r := Value.type "tuple") _ (fun v hv Q' hq => ?_) (wpAny_pure ?_))))
  · obtain ⟨ns, a, its, rfl, ⟨o, ho, hc, hd⟩, _⟩ := ht v hv
    refine (show PySem.W.Looks (model prog w) s.heap (typeOf (.ref a)) o.cls from (PySem.W.Looks.ld ho).andThen .now).here ?_
    rw [hc]
    exact hq
  · have hall2 : ((List.map (fun _ => Value.type "tuple") (v0 :: r)).toArray.all fun x => x == Value.type "tuple") = true := by
      simp only [List.all_toArray, List.all_map, List.all_eq_true]
      intro _ _
      rfl
    have h00 : (List.map (fun _ => Value.type "tuple") (v0 :: r)).toArray[0]? = some (Value.type "tuple") := by simp
    rw [h00]
    simp only [hall2, if_true]
    exact wpAny_pure (wpAny_pure h)
theorem cmpLots {vs : List Value} {k : Value → List Int} (hu : A.units < cLine) (hp : ∀ v ∈ vs, TupI s.heap v (k v)) : SrtO.Cmp prog w A s oneType' (fun p => p.1 ∈ vs) (SrtO.lt2 fun v u => HT.lexLt (k v) (k u)) := by
  intro p q hm hm'
  obtain ⟨a, its, e, t1, i1⟩ := hp _ hm
  obtain ⟨b, its2, e2, t2, i2⟩ := hp _ hm'
  show wpAny (model prog w) A (keyLt' oneType' p.1 q.1) (fun r s' => s' = s ∧ r = HT.lexLt (k p.1) (k q.1)) (fun _ _ => False) s
  rw [keyLt'_oneType, oneLt'_eq, e, e2]
  rw [e] at i1
  rw [e2] at i2
  simp only [if_true]
  refine wpAny_bind (wpAny_cRoomFor hu ?_)
  obtain ⟨⟨cls, dd, data, sl⟩, ho, hc, n, hd⟩ := id t1
  obtain ⟨⟨cls2, dd2, data2, sl2⟩, ho2, hc2, n2, hd2⟩ := id t2
  simp only at hc hd hc2 hd2
  subst hc hd hc2 hd2
  refine wpAny_bind (wpAny_callSpecialIfBound?_slot (T := "tuple") ⟨_, ho, rfl⟩ PySem.F.slot_tuple_lt ?_)
  refine call_meets PySem.F.slot_tuple_lt ⟨_, ho, rfl⟩ PySem.F.entry_tuple_lt (PySem.F.args_tuple_lt_2 _ _) (HT.tuple_lt_ints a b its its2 n n2 dd dd2 sl sl2 _ _ i1 i2) ⟨ho, ho2, ?_⟩
  exact wpAny_truthy_bool ⟨rfl, rfl⟩
theorem sortedLots {l : Addr} {v0 : Value} {r : List Value} {k : Value → List Int} {E : Value → Shared → Prop} {Q : Value → Shared → Prop} (hu : A.units + 2 < cLine) (hl : s.heap.IsList l (v0 :: r).toArray) (hz : (v0 :: r).length ≤ sizeLine) (h0 : k v0 = []) (hp : ∀ v ∈ v0 :: r, TupI s.heap v (k v))
    (h : ∀ (h' : Heap) (d : Addr) (out : List Value), SrtO.Srtd (fun v u => HT.lexLt (k v) (k u)) out → out.Perm (v0 :: r) → (∀ b o, s.heap.get? b = some o → h'.get? b = some o) → s.heap.objs.size ≤ d → (∃ n, h'.get? d = some (seqObj "list" out.toArray n)) → Q (.ref d) { s with heap := h' }) :
    wpAny (model prog w) A (call (.builtin "sorted") [.ref l]) Q E s := by
  refine SrtO.sorted_ord (swo_lexL k) hl hz (fun h2 h₁ a ha kk => ?_) fun out hs hb => ?_
  · intro h' keep
    have ne : ∀ o, h₁.get? a = some o → o.cls ≠ .type "tuple" := fun o e => by
      rw [ha] at e
      cases e
      intro c
      exact absurd (Value.type.inj c) (by decide)
    have hp' : ∀ v ∈ v0 :: r, TupI h' v (k v) := fun v hm => (hp v hm).keep fun b o e c => keep b o (fun z => by subst z; exact ne o ((kk b o e).2) c) (kk b o e).2
    refine ⟨oneType', fun Q E hq => ?_, cmpLots (by show A.units + 1 + 1 < cLine; omega) hp'⟩
    refine kindLots (s := { s with heap := h' }) ?_ (fun v hv => ⟨_, hp' v hv⟩) hq
    have := hp' v0 List.mem_cons_self
    rw [h0] at this
    exact this
  · exact h _ _ out hs hb.perm (fun b o e => sortedAll_old e) (Nat.le_succ _) (sortedAll_at s.heap (v0 :: r) out.toArray)
end
/-! the rule: the items are references -/
def rSortLots (K : PySem.W.Frag) : List V → Hp → VK → Prop := fun vs H Q => ∃ (l a0 : Addr) (as : List Addr) (f : Addr → List Int), vs = [.ref l] ∧ SqL K H l ((a0 :: as).map V.ref) ∧ f a0 = [] ∧ (∀ a ∈ a0 :: as, SqT K H a ((f a).map V.int)) ∧
  ∀ (out : List Addr) (p : Addr), out.Perm (a0 :: as) → out.Pairwise (fun a b => HT.lexLt (f b) (f a) = false) → H p = none → Q (.ref p) (upd H p (.lst (out.map V.ref)))
def refOf : Value → Addr
  | .ref a => a
  | _ => 0
theorem vals_refs {as : List Addr} : ∀ {us : List Value}, Vals (as.map V.ref) us → us = as.map Value.ref := by
  induction as with
  | nil => intro us h; cases h; rfl
  | cons a r ih =>
    intro us h
    cases h with
    | cons h1 h2 => rw [ih h2, show _ = Value.ref a from h1]; rfl
theorem refs_vals : ∀ as : List Addr, Vals (as.map V.ref) (as.map Value.ref)
  | [] => .nil
  | a :: r => .cons rfl (refs_vals r)
theorem cr_sortedLots {X : Cx} (hu : X.A.units + 2 < cLine) : CallR X (.builtin "sorted") (rSortLots X.K) := by
  intro pins s σ H vs us Q I r h
  obtain ⟨l, a0, as, f, rfl, hs, h0, hf, q⟩ := h
  obtain ⟨its, rv, hl, hz⟩ := I.list hs
  obtain ⟨u, rfl, ru⟩ := vals1 r
  obtain rfl : u = Value.ref l := ru
  obtain rfl := vals_refs rv
  refine sortedLots (k := fun v => f (refOf v)) (v0 := .ref a0) (r := as.map Value.ref) hu hl.isList (by show ((a0 :: as).map Value.ref).length ≤ _; rw [← rv.length]; exact hz) h0 (fun v hv => ?_) fun h' d out h1 h2 kp hd hn => ?_
  · obtain ⟨a, ha, rfl⟩ := List.mem_map.mp (show v ∈ (a0 :: as).map Value.ref from hv)
    obtain ⟨its2, r2, p2, _⟩ := I.tuple (hf a ha)
    exact ⟨a, its2.toArray, rfl, p2, intsAre_of r2⟩
  · obtain ⟨n, hn⟩ := hn
    have eo : out = (out.map refOf).map Value.ref := by
      rw [List.map_map]
      conv => lhs; rw [← List.map_id out]
      refine List.map_congr_left fun v hv => ?_
      obtain ⟨a, _, rfl⟩ := List.mem_map.mp (show v ∈ (a0 :: as).map Value.ref from h2.mem_iff.mp hv)
      rfl
    have pm : (out.map refOf).Perm (a0 :: as) := by
      have := h2.map refOf
      have e2 : ((Value.ref a0 :: as.map Value.ref).map refOf) = a0 :: as := by
        show a0 :: (as.map Value.ref).map refOf = _
        rw [List.map_map]
        have : (refOf ∘ Value.ref) = (id : Addr → Addr) := rfl
        rw [this, List.map_id]
      rw [e2] at this
      exact this
    refine ⟨.ref d, upd H d (.lst ((out.map refOf).map V.ref)), I.laid (t' := s.toks) kp hd ⟨?_, (out.map refOf).map Value.ref, n, refs_vals _, by rw [← eo]; exact hn⟩, rfl, q _ d pm (List.pairwise_map.mpr h1) (I.hok.fresh hd)⟩
    rw [List.length_map, pm.length_eq]
    rw [List.length_map] at hz
    exact hz
end Ox
namespace Ox
open PySem PySem.Spec PyProof.Rows L2
theorem hu2 {A : Around} {k : Nat} (r : Room k A) : A.units + 2 < cLine := by have := r.un; omega
theorem op_catAK {X : Cx} {K : PySem.W.Frag} (e : X.K = K := by rfl) : OpR X (binaryOp .Add) (rCatA K) := e ▸ op_catA
theorem x_catA {K : PySem.W.Frag} {H : Hp} {Q : VK} {a b : Addr} {xs ys : List V} (ha : SqT K H a xs) (hb : H b = some (.tup ys)) (hy : ys ≠ []) (hl : xs.length + ys.length ≤ 10000) (q : ∀ p H', L2.Same H H' → H' p = some (.tup (xs ++ ys)) → Q (.ref p) H') : rCatA K (.ref a) (.ref b) H Q :=
  ⟨a, b, xs, ys, rfl, rfl, ha, SqT.of hb, sz_le hl, fun e => q b H (fun _ _ h => h) (by rw [e]; exact hb), fun _ e => absurd e hy, fun _ _ p hp => q p _ (same_new hp) upd_same⟩
end Ox

/-! Own layer: the law's own def, walked where it is called (so that no repr is under way there), and repr of nested data. -/
namespace Ox
open PySem PySem.Spec PyProof.Rows L2
section
variable {P : Program} {w : World} {K : PySem.W.Frag} {mg : Str → Option Value} {base : Heap}
/-- a law's promise: as FnOk, for the law's caller alone -/
structure FnL (P : Program) (w : World) (K : PySem.W.Frag) (mg : Str → Option Value) (base : Heap) (f : Addr) (fd : FuncData) (ps : List Str) (sp : Sp) : Prop where
  len : ∀ vs H Q E, sp vs H Q E → vs.length = ps.length
  run : ∀ (s : Shared) (H : Hp) (args : Args) (us : List Value) (vs : List V) (Q : VK), Env0 P w K mg base callerA [] s H → BindsTo s fd args (ps.zip us) → Vals vs us → sp vs H Q E0 →
    codeAny (model P w) callerA (.call (.ref f) args) (CR CX0 [] P w H s Q E0) s
/-- the body's context where the law's caller calls -/
abbrev cxL (P : Program) (w : World) (K : PySem.W.Frag) (mg : Str → Option Value) (base : Heap) (N : List Str) (qual : Str) (sc : Scope) (f : Addr) (cdv : Value) (s : Shared) (H : Hp) : Cx := cxOf CX0 P w K mg base N qual sc f cdv callerA [] s H E0
theorem Fun.okL {x qual : Str} {st : Stmt} {f : Addr} {fd : FuncData} {N ps : List Str} {k : Nat} {sp : Sp} (hr : Room (k + 1) callerA) (F : Fun K x qual st f fd) (S : FnScope N ps (defScope st)) (len : ∀ vs H Q E, sp vs H Q E → vs.length = ps.length)
    (body : ∀ (cdv : Value) (s : Shared) (H : Hp) (vs : List V) (Q : VK), Room k (callerA.deeper (envOfC qual (defScope st) s.heap.objs.size f cdv)) → sp vs H Q E0 →
      ∃ t, PSs (cxL P w K mg base N qual (defScope st) f cdv s H).nox (defBody st) t ∧ t { nx := fun _ H' => Q .non H', rt := Q } (start N vs) H) : FnL P w K mg base f fd ps sp := by
  obtain ⟨oc, od, kV, doc, pm, an, cdv, ct, osl, rfl, lk, hcd⟩ := F.ex
  refine ⟨len, ?_⟩
  intro s H args us vs Q e0 hb r hsp
  have old : ∀ b o, base.get? b = some o → s.heap.get? b = some o := fun b o e => (e0.bs b o e).1
  have par : ∀ y ∈ ps.zip us, (defScope st).names.lookup y.1 = some .local ∨ ((defScope st).names.lookup y.1 = some .cell ∧ ((cellsFrom (s.heap.objs.size + 1) (defScope st).names []).lookup y.1).isSome = true) := by
    rintro ⟨n, v⟩ hy
    exact (S.par n (List.of_mem_zip hy).1).imp id fun q => ⟨q, PySem.W.cellsFrom_some _ _ _ (.inl q)⟩
  refine codeAny_call_function hr.depth (e0.mod.kin.keeps old _ _ lk) rfl S.co S.gen rfl (PySem.W.codeRec_of (e0.mod.kin.keeps old) hcd) (hb _ _ _ _ (wpAny_newFunctionEnv_cells S.kind par ?_))
  rintro env rfl s1 x
  obtain ⟨t, ht, hq⟩ := body cdv s H vs Q (hr.deeper _) hsp
  refine ⟨(e0.mod.nolimit.keeps old).keeps x.toInCall.keep, codeAny_func ?_⟩
  have J : Inv (cxL P w K mg base N qual (defScope st) f cdv s H) [] (start N vs) H s1 := inv_start S rfl e0 (len _ _ _ _ hsp) r x
  refine wpAny_mono (ht.nox.run [] s1 _ H _ J hq) (fun fl s' z => ?_) fun _ _ z => z
  cases fl with
  | ret u =>
    obtain ⟨v, σ', H', I', rv, q⟩ := z
    exact ⟨v, H', I'.os, I'.bare, I'.base, I'.hok, rv, q⟩
  | next =>
    obtain ⟨σ', H', I', q⟩ := z
    exact ⟨V.non, H', I'.os, I'.bare, I'.base, I'.hok, rfl, q⟩
  | brk =>
    obtain ⟨_, _, _, q⟩ := z
    exact q.elim
  | cont =>
    obtain ⟨_, _, _, q⟩ := z
    exact q.elim
end
/-- where the law is called: H tracks the script at a, or nothing -/
theorem envL {P : Program} {w : World} {K : PySem.W.Frag} {mg mb : Str → Option Value} {s : Shared} {H : Hp} {a : Addr} {vs : List Value}
    (KX : K.In s.heap) (g : s.heap.Ns mainGlobals mg) (b : s.heap.Ns builtinsNs mb) (bb : ∀ x : Str, x ≠ "__name__" → mb x = bootBuiltins x) (lim : s.heap.NoLimit) (hg : s.gens = #[])
    (ha : s.heap.get? a = some { cls := .type "list", data := .seq vs.toArray }) (hA : ∀ c, c ≠ a → H c = none) (hK : H a = none ∨ K.lookup a = none) (hok : HOk P w H s.heap) :
    Env0 P w K mg (hidT s.heap H) callerA [] s H ∧ K.In (hidT s.heap H) ∧ (hidT s.heap H).Ns mainGlobals mg := by
  have nsOf : ∀ {c : Addr} {m : Str → Option Value}, s.heap.Ns c m → (hidT s.heap H).Ns c m := by
    rintro c m ⟨o, es, ep, e, d, r⟩
    refine ⟨o, es, ep, hidT_get e (hA c ?_), d, r⟩
    rintro rfl
    rw [ha] at e
    cases e
    cases d
  have inK : K.In (hidT s.heap H) := by
    intro c o e
    refine hidT_get (KX c o e) ?_
    by_cases hc : c = a
    · subst hc
      rcases hK with z | z
      · exact z
      · rw [z] at e; cases e
    · exact hA c hc
  obtain ⟨mc, l1, l2⟩ := lim
  exact ⟨⟨rfl, ⟨inK, nsOf g, ⟨mb, nsOf b, bb⟩, ⟨mc, nsOf l1, l2⟩⟩, fun c o e => of_hidT e, Nat.le_of_eq (hidT_size _ _), trivial, fun c hc => absurd (show c ∈ ([] : List Addr) from hc) (by simp), hok, .of_eq hg⟩, inK, nsOf g⟩
theorem endL {P : Program} {w : World} {s : Shared} {H : Hp} {r : Result} {s' : Shared} (hok : HOk P w H s.heap) (hO : Only H) (h : CR CX0 [] P w H s (fun v _ => v = .bl true) E0 r s') :
    r = .ok (.ret (.bool true)) ∧ OldK s.heap s'.heap ∧ s'.os = s.os ∧ AllBare s'.gens := by
  cases r with
  | error e => exact False.elim h
  | ok fl =>
    cases fl with
    | ret u =>
      obtain ⟨v, H', os, bare, un, hok', rv, q⟩ := h
      obtain rfl : v = V.bl true := q
      obtain rfl : u = Value.bool true := rv
      refine ⟨rfl, OldK.of_keep ?_, os, bare⟩
      intro b o e
      have nil : b ∉ frs ([] : List Env) := fun z => absurd (show b ∈ ([] : List Addr) from z) (by simp)
      rcases hO b with n | ⟨ob, xs, t⟩
      · exact un.keep b o e n nil (by simp)
      · have t1 : s.heap.get? b = some ob := (hok b _ t).1
        have t2 : s'.heap.get? b = some ob := (hok' b _ (un.frzs b ob _ t)).1
        rw [t1] at e
        rw [t2, Option.some.inj e]
    | next => exact False.elim h
    | brk => exact False.elim h
    | cont => exact False.elim h
/-- the law's end over a head by facts -/
theorem walk_ofL {l : PySem.W.OpenLaw} {n : Nat} {q : Program} {loose : List Str} {XP : (Str → Option Value) → Heap → Prop} {YP : World → Heap → Prop} {d : DefRec} {x : Str}
    (hn : l.most = some n) (hn2 : n ≤ sizeLine) (hdf : d.params.defaults = [])
    (F : ∀ (w : World) (mg : Str → Option Value) (fa : Addr) (h : Heap), YP w h → h.Ns mainGlobals mg → mg d.name = some (.ref fa) →
      ∃ (K : PySem.W.Frag) (fd : FuncData) (sp : Sp), K.In h ∧ (∀ (s : Shared) (u : Value), BindsTo s fd ⟨[u], []⟩ [(x, u)]) ∧
        (∀ (H : Hp) (a : Addr) (ns : List Int), ns.length ≤ n → Only H → SqL K H a (ns.map V.int) → sp [.ref a] H (fun v _ => v = .bl true) fun _ _ _ => False) ∧
        ∀ base : Heap, K.In base → base.Ns mainGlobals mg → FnL l.prog w K mg base fa fd [x] sp) :
    PySem.W.WalkO q loose XP YP l.row.toRowW d [] (fun f vs => PySem.call f vs) := by
  refine Att.attach_call hn hdf ?_
  intro w s₀ s₁ mg mb fa o pm cd doc a vs ns G Y ho hd hcd hmg hobj hints hlen hg
  obtain ⟨K, fd, sp, KX, hb, hsp, hF⟩ := F w mg fa _ Y G.T.g hmg
  have rv := vals_ints hints
  have lv := hints.length
  have go : ∀ H : Hp, Only H → (∀ c, c ≠ a → H c = none) → (H a = none ∨ K.lookup a = none) → HOk l.prog w H s₁.heap → SqL K H a (ns.map V.int) →
      codeAny (model l.prog w) callerA (.call (.ref fa) ⟨[.ref a], []⟩) (fun r s' => r = .ok (.ret (.bool true)) ∧ OldK s₁.heap s'.heap ∧ s'.os = s₁.os ∧ AllBare s'.gens) s₁ := by
    intro H hO hA hK hok hS
    obtain ⟨e0, k1, k2⟩ := envL KX G.T.g G.T.b G.T.builtins G.T.nolimit hg hobj hA hK hok
    exact codeAny_mono ((hF _ k1 k2).run s₁ H _ [.ref a] [.ref a] _ e0 (hb s₁ (.ref a)) (.cons rfl .nil) (hsp H a ns hlen hO hS)) fun r s' z => endL hok hO z
  by_cases hk : K.lookup a = none
  · refine go (upd (fun _ => none) a (.frz { cls := .type "list", data := .seq vs.toArray } (.lst (ns.map V.int)))) (fun b => ?_) (fun c hc => upd_ne hc) (.inr hk) (fun b u z => ?_) (.inl (.inr ⟨_, upd_same⟩))
    · by_cases hb : b = a
      · exact .inr ⟨_, _, by rw [hb]; exact upd_same⟩
      · exact .inl (upd_ne hb)
    · by_cases hb : b = a
      · subst hb
        rw [upd_same] at z
        cases z
        exact ⟨hobj, by rw [List.length_map]; omega, vs, _, rv, hobj⟩
      · rw [upd_ne hb] at z
        cases z
  · obtain ⟨o', hk'⟩ := Option.ne_none_iff_exists'.mp hk
    have e := KX a o' hk'
    rw [hobj] at e
    cases e
    exact go (fun _ => none) (fun _ => .inl rfl) (fun _ _ => rfl) (.inl rfl) (fun _ _ z => by cases z) (.inr ⟨_, vs.toArray, _, hk', rfl, rfl, rfl, by rw [List.size_toArray]; omega, by simpa using rv⟩)
/-! ### repr of nested data -/
/-- a dict's key as data -/
def kD : Key → PyData
  | .inl i => .int i
  | .inr x => .str x
def zipK : List (Key × V) → List PyData → List (PyData × PyData)
  | (k, _) :: r, d :: ds => (kD k, d) :: zipK r ds
  | _, _ => []
theorem zipK_keys : ∀ {kvs : List (Key × V)} {ds : List PyData}, ds.length = kvs.length → (zipK kvs ds).map (·.1) = kvs.map fun p => kD p.1
  | [], [], _ => rfl
  | (k, v) :: r, d :: ds, h => by
    show kD k :: (zipK r ds).map (·.1) = kD k :: r.map fun p => kD p.1
    rw [zipK_keys (by simpa using h)]
  | [], _ :: _, h => by simp at h
  | _ :: _, [], h => by simp at h
theorem zipK_vals : ∀ {kvs : List (Key × V)} {ds : List PyData}, ds.length = kvs.length → (zipK kvs ds).map (·.2) = ds
  | [], [], _ => rfl
  | (k, v) :: r, d :: ds, h => by
    show d :: (zipK r ds).map (·.2) = d :: ds
    rw [zipK_vals (by simpa using h)]
  | [], _ :: _, h => by simp at h
  | _ :: _, [], h => by simp at h
mutual
/-- what stands at v in H, as data -/
inductive Shw (H : Hp) : V → PyData → Prop
  | non : Shw H .non .none
  | bl (b : Bool) : Shw H (.bl b) (.bool b)
  | int (i : Int) : Shw H (.int i) (.int i)
  | str (x : Str) : Shw H (.str x) (.str x)
  | lst {a : Addr} {xs : List V} {ds : List PyData} : Rd H a (.lst xs) → ShwA H xs ds → Shw H (.ref a) (.list ds)
  | tup {a : Addr} {xs : List V} {ds : List PyData} : H a = some (.tup xs) → ShwA H xs ds → Shw H (.ref a) (.tuple ds)
  | dK {a : Addr} {kvs : List (Key × V)} {ds : List PyData} : Rd H a (.dK kvs) → ShwA H (kvs.map (·.2)) ds → Shw H (.ref a) (.dict (zipK kvs ds))
inductive ShwA (H : Hp) : List V → List PyData → Prop
  | nil : ShwA H [] []
  | cons {v : V} {d : PyData} {vs : List V} {ds : List PyData} : Shw H v d → ShwA H vs ds → ShwA H (v :: vs) (d :: ds)
end
theorem ShwA.len {H : Hp} : ∀ {vs : List V} {ds : List PyData}, ShwA H vs ds → ds.length = vs.length
  | _, _, .nil => rfl
  | _, _, .cons _ r => by simp [r.len]
theorem ReadsAll.app1 {h : Heap} : ∀ {us : List Value} {ds : List PyData}, (∀ p ∈ us.zip ds, Reads h p.1 p.2 []) → us.length = ds.length → ReadsAll h us ds []
  | [], [], _, _ => .nil
  | u :: us, d :: ds, k, l => ReadsAll.cons (as := []) (bs := []) (k (u, d) (by simp)) (app1 (fun p hp => k p (by simp [hp])) (by simpa using l))
  | [], _ :: _, _, l => by simp at l
  | _ :: _, [], _, l => by simp at l
theorem keysRead {P : Program} {w : World} {h : Heap} : ∀ {es : List DictEntry} {vs : List (Key × Value)}, Pairs (mixKind P w) es vs → ReadsAll h (es.map (·.key)) (vs.map fun p => kD p.1) [] ∧ es.map (·.val) = vs.map (·.2)
  | _, _, .nil => ⟨.nil, rfl⟩
  | _, _, .cons (e := e) (kv := kv) hk hv r => by
    obtain ⟨i1, i2⟩ := keysRead r
    refine ⟨ReadsAll.cons (as := []) (bs := []) ?_ i1, by rw [List.map_cons, List.map_cons, i2, hv]⟩
    obtain ⟨k, v⟩ := kv
    rcases keyIs_shape hk with ⟨i, t, e1, e2⟩ | ⟨x, t, e1, e2⟩
    · have e1' : k = Sum.inl i := e1
      subst e1'
      show Reads h e.key _ []
      rw [e2]
      exact Reads.int i t
    · have e1' : k = Sum.inr x := e1
      subst e1'
      show Reads h e.key _ []
      rw [e2]
      exact Reads.str x t
theorem kv_keys : ∀ {kvs : List (Key × V)} {vs : List (Key × Value)}, KV kvs vs → vs.map (fun p => kD p.1) = kvs.map (fun p => kD p.1) ∧ Vals (kvs.map (·.2)) (vs.map (·.2))
  | _, _, .nil => ⟨rfl, .nil⟩
  | _, _, .cons r t => by
    obtain ⟨i1, i2⟩ := kv_keys t
    exact ⟨by rw [List.map_cons, List.map_cons, i1, r.1], .cons r.2 i2⟩
mutual
theorem Shw.reads {P : Program} {w : World} {H : Hp} {h : Heap} (ok : HOk P w H h) : ∀ {v : V} {d : PyData}, Shw H v d → ∀ {u : Value}, RelV v u → ∃ as, Reads h u d as ∧ ∀ b ∈ as, H b ≠ none
  | _, _, .non, u, r => by
    obtain rfl : u = Value.none := r
    exact ⟨[], .none, fun b hb => by cases hb⟩
  | _, _, .bl b, u, r => by
    obtain rfl : u = Value.bool b := r
    exact ⟨[], .bool b, fun b hb => by cases hb⟩
  | _, _, .int i, u, r => by
    obtain ⟨t, rfl⟩ := r
    exact ⟨[], .int i t, fun b hb => by cases hb⟩
  | _, _, .str x, u, r => by
    obtain ⟨t, rfl⟩ := r
    exact ⟨[], .str x t, fun b hb => by cases hb⟩
  | _, _, .lst (a := a) (xs := xs) ha hs, u, r => by
    obtain rfl : u = Value.ref a := r
    obtain ⟨_, its, n, rv, hg⟩ := ha.ok ok
    obtain ⟨as, hr, hn⟩ := ShwA.reads ok hs rv
    refine ⟨a :: as, .list hg rfl rfl hr, fun b hb => ?_⟩
    rcases List.mem_cons.mp hb with rfl | hb
    · rcases ha with z | ⟨o, z⟩ <;> rw [z] <;> simp
    · exact hn b hb
  | _, _, .tup (a := a) ha hs, u, r => by
    obtain rfl : u = Value.ref a := r
    obtain ⟨_, its, rv, o, hg, hc, n, hd⟩ := ok a _ ha
    obtain ⟨as, hr, hn⟩ := ShwA.reads ok hs rv
    exact ⟨as, .tuple hg hc hd hr, hn⟩
  | _, _, .dK (a := a) (kvs := kvs) ha hs, u, r => by
    obtain rfl : u = Value.ref a := r
    obtain ⟨_, _, vs, rel, o, es, ep, hg, hx, hd, _, hp, _⟩ := ha.ok ok
    obtain ⟨k1, k2⟩ := keysRead (h := h) hp
    obtain ⟨k3, k4⟩ := kv_keys rel
    obtain ⟨as, hr, hn⟩ := ShwA.reads ok hs k4
    refine ⟨a :: [] ++ as, .dict hg hx.1 hd ?_ ?_, fun b hb => ?_⟩
    · rw [zipK_keys (by rw [hs.len, List.length_map]), ← k3]
      exact k1
    · rw [zipK_vals (by rw [hs.len, List.length_map]), k2]
      exact hr
    · rcases List.mem_cons.mp hb with rfl | hb
      · rcases ha with z | ⟨o, z⟩ <;> rw [z] <;> simp
      · exact hn b hb
theorem ShwA.reads {P : Program} {w : World} {H : Hp} {h : Heap} (ok : HOk P w H h) : ∀ {vs : List V} {ds : List PyData}, ShwA H vs ds → ∀ {us : List Value}, Vals vs us → ∃ as, ReadsAll h us ds as ∧ ∀ b ∈ as, H b ≠ none
  | _, _, .nil, us, r => by
    cases r
    exact ⟨[], .nil, fun b hb => by cases hb⟩
  | _, _, .cons hv hs, us, r => by
    cases r with
    | cons r1 r2 =>
      obtain ⟨as, h1, n1⟩ := Shw.reads ok hv r1
      obtain ⟨bs, h2, n2⟩ := ShwA.reads ok hs r2
      exact ⟨as ++ bs, .cons h1 h2, fun b hb => (List.mem_append.mp hb).elim (n1 b) (n2 b)⟩
end
theorem rd_same {H H' : Hp} {a : Addr} {u : HO} (s : L2.Same H H') (h : Rd H a u) : Rd H' a u := h.imp (s _ _) fun ⟨o, h⟩ => ⟨o, s _ _ h⟩
mutual
theorem Shw.same {H H' : Hp} (s : L2.Same H H') : ∀ {v : V} {d : PyData}, Shw H v d → Shw H' v d
  | _, _, .non => .non
  | _, _, .bl b => .bl b
  | _, _, .int i => .int i
  | _, _, .str x => .str x
  | _, _, .lst h hs => .lst (rd_same s h) (ShwA.same s hs)
  | _, _, .tup h hs => .tup (s _ _ h) (ShwA.same s hs)
  | _, _, .dK h hs => .dK (rd_same s h) (ShwA.same s hs)
theorem ShwA.same {H H' : Hp} (s : L2.Same H H') : ∀ {vs : List V} {ds : List PyData}, ShwA H vs ds → ShwA H' vs ds
  | _, _, .nil => .nil
  | _, _, .cons h hs => .cons (Shw.same s h) (ShwA.same s hs)
end
theorem vals_of1 {x : V} {us : List Value} (r : Vals [x] us) : ∃ u, us = [u] ∧ RelV x u := vals1 r
/-- repr(x) -/
def rRepr : List V → Hp → VK → Prop := fun xs H Q => ∃ (v : V) (d : PyData), xs = [v] ∧ Shw H v d ∧ d.showable = true ∧ d.depth ≤ 64 ∧ d.shown.length ≤ sizeLine ∧ Q (.str d.shown) H
theorem call_repr {X : Cx} (hg : X.A.guards = some []) (hu : X.A.units + 100 < cLine) (hm : (X.K.lookup sysModules).isSome = true) : CallR X (.builtin "repr") rRepr := by
  intro pins s σ H xs us Q I r h
  obtain ⟨v, d, rfl, sh, hs, hd, hz, q⟩ := h
  obtain ⟨u, rfl, ru⟩ := vals1 r
  have deep : ∀ a, v = .ref a → wpAny (model X.prog X.w) X.A (call (.builtin "repr") [u]) (EP X pins σ Q) X.xe s := by
    rintro a rfl
    obtain rfl : u = Value.ref a := ru
    obtain ⟨as, hr, hn⟩ := sh.reads I.hok rfl
    obtain ⟨o, ho⟩ := Option.isSome_iff_exists.mp hm
    have nm : sysModules ∉ as := fun z => hn _ z (I.bs _ _ (I.mod.kin _ _ ho)).2
    exact repr_of_reads' hr hs (fun _ => nm) hg (by omega) (fun _ _ e => e) (fun h' u tk k => ⟨.str _, H, I.kept k, ⟨_, rfl⟩, q⟩) hz
  cases sh with
  | non =>
    obtain rfl : u = Value.none := ru
    exact PySem.P.repr_of_none ⟨.str _, H, I.tok _, ⟨_, rfl⟩, q⟩
  | bl b =>
    obtain rfl : u = Value.bool b := ru
    exact PySem.P.repr_of_bool ⟨.str _, H, I.tok _, ⟨_, rfl⟩, q⟩
  | int i =>
    obtain ⟨t, rfl⟩ := ru
    exact PySem.P.repr_of_int (of_decide_eq_true hs) ⟨.str _, H, I.tok _, ⟨_, rfl⟩, q⟩
  | str x =>
    obtain ⟨t, rfl⟩ := ru
    exact PySem.P.repr_of_str ⟨.str _, H, I.tok _, ⟨_, rfl⟩, q⟩ hz
  | lst _ _ => exact deep _ rfl
  | tup _ _ => exact deep _ rfl
  | dK _ _ => exact deep _ rfl
/-- small data -/
structure Sm (B : Nat) (d : PyData) : Prop where
  sh : d.showable = true
  dp : d.depth ≤ 5
  ln : d.shown.length ≤ B
theorem Sm.mono {B C : Nat} {d : PyData} (h : Sm B d) (hb : B ≤ C) : Sm C d := ⟨h.sh, h.dp, Nat.le_trans h.ln hb⟩
/-- a list's or tuple's own data out of its items' -/
theorem items_of {H : Hp} {B : Nat} : ∀ {xs : List V}, (∀ y ∈ xs, ∃ d, Shw H y d ∧ d.showable = true ∧ d.depth ≤ 4 ∧ d.shown.length ≤ B) → ∃ ds, ShwA H xs ds ∧ PyData.showableAll ds = true ∧ PyData.depthAll ds ≤ 4 ∧ ((PyData.shownAll ds).map (·.length)).sum ≤ xs.length * B ∧ (PyData.shownAll ds).length = xs.length
  | [], _ => ⟨[], .nil, rfl, Nat.zero_le _, Nat.zero_le _, rfl⟩
  | y :: r, h => by
    obtain ⟨d, h1, h2, h3, h4⟩ := h y List.mem_cons_self
    obtain ⟨ds, g1, g2, g3, g4, g5⟩ := items_of fun z hz => h z (List.mem_cons_of_mem _ hz)
    refine ⟨d :: ds, .cons h1 g1, ?_, ?_, ?_, ?_⟩
    · show (d.showable && PyData.showableAll ds) = true
      rw [h2, g2]; rfl
    · show max d.depth (PyData.depthAll ds) ≤ 4
      omega
    · show ((d.shown :: PyData.shownAll ds).map (·.length)).sum ≤ (r.length + 1) * B
      rw [List.map_cons, List.sum_cons, Nat.succ_mul]
      omega
    · show (d.shown :: PyData.shownAll ds).length = _
      rw [List.length_cons, List.length_cons, g5]
theorem row_shw {H : Hp} {B : Nat} {a : Addr} {xs : List V} (ha : Rd H a (.lst xs) ∨ H a = some (.tup xs)) (h : ∀ y ∈ xs, ∃ d, Shw H y d ∧ d.showable = true ∧ d.depth ≤ 4 ∧ d.shown.length ≤ B) : ∃ d, Shw H (.ref a) d ∧ Sm (xs.length * (B + 2) + 3) d := by
  obtain ⟨ds, g1, g2, g3, g4, g5⟩ := items_of h
  have key : ((PyData.shownAll ds).map (·.length)).sum + 2 * (PyData.shownAll ds).length + 3 ≤ xs.length * (B + 2) + 3 := by
    rw [g5, Nat.mul_add]
    omega
  rcases ha with ha | ha
  · exact ⟨_, .lst ha g1, g2, by show PyData.depthAll ds + 1 ≤ 5; omega, Nat.le_trans (listText_len_le _) key⟩
  · exact ⟨_, .tup ha g1, g2, by show PyData.depthAll ds + 1 ≤ 5; omega, Nat.le_trans (tupleText_len_le _) key⟩
end Ox

/-! Own layer: defs that raise, own exceptions without __init__, try .. except X as e. -/
namespace Ox
open PySem PySem.Spec PyProof.Rows L2
/-- the module's name x is an own exception class at C, under ValueError, without own __init__ -/
structure Exc0 (K : PySem.W.Frag) (mg : Str → Option Value) (x : Str) (C : Addr) : Prop where
  gC : mg x = some (.ref C)
  xC : PySem.W.excIn K C veB "ValueError.__new__" = true
  kC : PySem.W.keepIn K (.ref C) = true
  bC : PySem.W.subIn K (.ref C) (.type "BaseException") = some true
  tC : PySem.W.typeIn K (.ref C) = some (.type "type")
theorem exc0F_ok {x : Str} {K : PySem.W.Frag} {mg : Str → Option Value} (g : mg x = some (.ref (He.ga K x))) (h : exc0F x K = true) : Exc0 K mg x (He.ga K x) := by
  obtain ⟨h1, h⟩ := Bool.and_eq_true_iff.mp h
  obtain ⟨h2, h⟩ := Bool.and_eq_true_iff.mp h
  obtain ⟨h3, h4⟩ := Bool.and_eq_true_iff.mp h
  exact ⟨g, h1, h2, of_decide_eq_true h3, of_decide_eq_true h4⟩
theorem excCF_ok {x : Str} {K : PySem.W.Frag} (h : excCF x K = true) : ExcC K (He.ga K x) := by
  obtain ⟨h1, h⟩ := Bool.and_eq_true_iff.mp h
  obtain ⟨h2, h⟩ := Bool.and_eq_true_iff.mp h
  obtain ⟨h3, h⟩ := Bool.and_eq_true_iff.mp h
  obtain ⟨h4, h5⟩ := Bool.and_eq_true_iff.mp h
  have t := xfB_ok h1
  exact ⟨t.ga, t.gg, t.exC, t.hdC, He.eqO_ok h2, He.eqO_ok h3, of_decide_eq_true h4, of_decide_eq_true h5⟩
theorem exmF_ok {C D : Str} {b : Bool} {K : PySem.W.Frag} (h : exmF C D b K = true) : PySem.W.exmOne K (.ref (He.ga K C)) (.ref (He.ga K D)) = some b := of_decide_eq_true h
theorem kitTF_ok {C : Str} {T : String} {b : Bool} {K : PySem.W.Frag} (h : kitTF C T b K = true) : PySem.W.kitOne K (.ref (He.ga K C)) (.type T) = some b := of_decide_eq_true h
/-! ### callees that may raise -/
section
variable (P : Program) (w : World) (K : PySem.W.Frag) (mg : Str → Option Value) (base : Heap)
structure CalX (k : Nat) (x : Str) (ps : List Str) (sp : Sp) : Prop where
  ex : ∃ f fd, FnOk P w K mg base (L2.CX P w) k f fd ps sp ∧ mg x = some (.ref f) ∧ PySem.W.keepIn K (.ref f) = true ∧ Binds K fd ps []
structure MetX (C : Addr) (k : Nat) (m : Str) (ps : List Str) (sp : Sp) : Prop where
  ex : ∃ f fd, Meth K C m f ∧ FnOk P w K mg base (L2.CX P w) k f fd ps sp ∧ Binds K fd ps []
end
/-- a wish that nothing is let out -/
def W0 : WX := fun _ _ _ _ => False
theorem takesN {X : Cx} : Takes X W0 := takes0
section
variable {X : Cx} {k : Nat} {x : Str} {ps : List Str} {sp : Sp} {e : Expr} {es : List Expr} {t : TA} {pos p : Pos} {W : WX}
theorem pe_calX (c : CalX X.prog X.w X.K X.mg X.base k x ps sp) (hr : Room k X.A) (hg : Gl X x) (tk : Takes X W) (ha : PA X (e :: es) t)
    (hs : starEach (e :: es) X.env = (false, eval e X.env) :: starEach es X.env := by rfl) (hp : (backTo pos (starEach es X.env)).any (·.1) = false := by rfl)
    (hdb : (x == ("__debug__" : Str)) = false := by decide) : PE X (.Call (.Name x p) (e :: es) [] pos) (tCallS sp (WE W) t) := by
  obtain ⟨f, fd, F, g, kp, b⟩ := c.ex
  exact pe_callS F hr hg g kp b (fun σ => passAt tk σ) ha hdb hs hp
/-- X() -/
theorem pmk_own0 {C : Addr} (c : Exc0 X.K X.mg x C) (hg : Gl X x) (hdb : (x == ("__debug__" : Str)) = false := by decide) :
    PMk X (.Call (.Name x p) [] [] pos) (fun _ H Q => Q (.ref C) none H) := by
  intro pins s σ H Q I h
  refine wpAny_Call_Name_kw (ld_glob I hg c.gC ?_ hdb)
  refine PySem.W.callWith_K0 I.kIn c.kC ?_
  show wpAny _ _ (call (.ref C) []) _ _ _
  obtain ⟨bm, N, nm, qn, bs, hdct, sn, sub, ab, col, dd, k0, k1, k2, k3, k5, mN, hC, hN, hni, T⟩ := exc_obj I.kIn c.xC
  refine wpAny_call_exc_subT PySem.F.excBase_ValueError T hC hN hni (fun h' e hm => ?_) (Nat.zero_le _)
  exact mk_of I hm (raises_own c.bC c.tC) h (I.hok.gone hm.new)
/-- raise X() -/
def tRaise0 (C : Addr) (W : WX) : TS := fun _ σ H => W (.ref C) none σ H
theorem ps_raise0 {C : Addr} {pos2 : Pos} (hc : X.calm = true) (tk : Takes X W) (c : Exc0 X.K X.mg x C) (hg : Gl X x) (hdb : (x == ("__debug__" : Str)) = false := by decide) :
    PS X (.Raise (some (.Call (.Name x p) [] [] pos)) none pos2) (tRaise0 C W) := ps_raise hc tk (pmk_own0 c hg hdb)
/-- the same reading in another word -/
theorem psEq {b : List Stmt} {u v : TS} (h : PSs X b u) (e : v = u := by rfl) : PSs X b v := by
  rw [e]
  exact h
end
section
variable {σ : L2.St} {H : Hp} {Q : VK} {D : Ends} {W : WX} {sp : Sp} {E : L2.St → XK} {t : TA} {C : Addr} {K : PySem.W.Frag}
theorem x_callS (q : t σ H fun vs H1 => sp vs H1 Q (E σ)) : tCallS sp E t σ H Q := q
theorem x_raise0 (q : W (.ref C) none σ H) : tRaise0 C W D σ H := q
end
/-! ### try .. except X as n -/
/-- its reading -/
def tTry (K : PySem.W.Frag) (c : Value) (i : Nat) (tb : WX → TS) (ts : Addr → Value → Option Addr → TS) (Wout : WX) : TS := fun D σ H => tb (wAs K c i ts Wout D) D σ H
/-- the ends of a suite whose name goes -/
def sEnds (i : Nat) (D : Ends) : Ends := { nx := fun σ' H' => D.nx (σ'.set i none) H', rt := D.rt, bk := fun σ' H' => D.bk (σ'.set i none) H', ct := fun σ' H' => D.ct (σ'.set i none) H' }
section
variable {σ : L2.St} {H : Hp} {D : Ends} {K : PySem.W.Frag} {c cls : Value} {d : Option Addr} {i : Nat} {tb : WX → TS} {ts : Addr → Value → Option Addr → TS} {Wout : WX}
theorem x_try (q : tb (wAs K c i ts Wout D) D σ H) : tTry K c i tb ts Wout D σ H := q
/-- caught -/
theorem x_caught (e : PySem.W.exmOne K cls c = some true) (q : ∀ a, H a = none → ts a cls d (sEnds i D) (σ.set i (some (.ref a))) H) : wAs K c i ts Wout D cls d σ H :=
  ⟨true, e, fun _ a ha => q a ha, fun z => nomatch z⟩
theorem x_caughtE (e : PySem.W.exmOne K cls c = some true) (q : ∀ a, H a = none → ts a cls d (sEnds i D) (σ.set i (some (.ref a))) H) : WE (wAs K c i ts Wout D) σ cls d H := x_caught e q
end
section
variable {X : Cx} {x n : Str} {c : Value} {i : Nat} {body suite : List Stmt} {b₀ : Stmt} {np pos pos' : Pos} {tb : WX → TS} {ts : Addr → Value → Option Addr → TS} {Wout : WX}
theorem ps_tryAs (hN : X.N.Nodup) (hs : X.stack = X.env :: X.outer) (hf : X.env.frame = some X.env.locals) (hi : X.N[i]? = some n) (hln : X.env.kindOf n = some .local) (hg : Gl X x) (hm : X.mg x = some c) (tk : Takes X Wout)
    (hb : ∀ (W : WX) (pn : List (Addr × Obj)) (xe : Value → Shared → Prop), Takes (X.tr pn xe) W → PassesOwn (model X.prog X.w) X.A X.env xe → PSs (X.tr pn xe) body (tb W))
    (hsu : ∀ (a : Addr) (oe : Obj) (cls : Value) (d : Option Addr) (pn : List (Addr × Obj)), Zc cls d oe → (∃ vs, oe.data = .fields vs) → PSs (X.suite a ((a, oe) :: pn)) (b₀ :: suite) (ts a cls d)) (hdb : (x == ("__debug__" : Str)) = false := by decide) :
    PS X (.Try body [.ExceptHandler (some (.Name x np)) (some n) (b₀ :: suite) pos'] [] [] pos) (tTry X.K c i tb ts Wout) :=
  ps_try_as hs hf hN hi hln ⟨hg, hdb, .inl hm⟩ tk hb hsu
end
/-! ### isinstance(e, C), e the caught one -/
def rIsX (K : PySem.W.Frag) (a : Addr) (cls : Value) (d : Option Addr) : List V → Hp → VK → Prop := fun xs H Q => ∃ D, cls = .ref D ∧ d = none ∧ ExcC K D ∧ rIsE K D a xs H Q
theorem call_isX {X : Cx} {a : Addr} {cls : Value} {d : Option Addr} {oe : Obj} {pn : List (Addr × Obj)} (hz : Zc cls d oe) (hf : ∃ vs, oe.data = .fields vs) : CallR (X.suite a ((a, oe) :: pn)) (.builtin "isinstance") (rIsX X.K a cls d) := by
  intro pins s σ H xs us Q I r h
  obtain ⟨D, rfl, rfl, hC, h⟩ := h
  exact call_isE hC hz hf pins s σ H xs us Q I r h
section
variable {H : Hp} {Q : VK} {K : PySem.W.Frag} {a D C : Addr} {b : Bool}
theorem x_isX (hC : ExcC K D) (e : PySem.W.kitOne K (.ref D) (.ref C) = some b) (q : Q (.bl b) H) : rIsX K a (.ref D) none [.ref a, .ref C] H Q :=
  ⟨D, rfl, rfl, hC, _, _, _, rfl, fun u r => r, e, q⟩
theorem x_isXT {T : String} (hC : ExcC K D) (e : PySem.W.kitOne K (.ref D) (.type T) = some b) (q : Q (.bl b) H) : rIsX K a (.ref D) none [.ref a, .ty T] H Q :=
  ⟨D, rfl, rfl, hC, _, _, _, rfl, fun u r => r, e, q⟩
end
end Ox

/-! Own layer: own exceptions whose __init__ says super().__init__('..') and lays one field. -/
namespace PySem
namespace SupX
open PySem.W PySem.Calls PyProof.Rows PySem.HandSPX
def iA (y : Str) (p1 p2 : Pos) : Arguments := { posonlyargs := [], args := [{ arg := "self", annotation := none, pos := p1 }, { arg := y, annotation := none, pos := p2 }], vararg := none, kwonlyargs := [], kw_defaults := [], kwarg := none, defaults := [] }
def iB (y txt : Str) (q1 q2 q3 q4 q5 q6 q7 q8 q9 q10 : Pos) : List Stmt :=
  [.Expr (.Call (.Attribute (.Call (.Name "super" q1) [] [] q2) "__init__" q3) [.Constant (.str txt) 0 q4] [] q5) q6, .Assign [.Attribute (.Name "self" q7) y q8] (.Name y q9) q10]
def iS (y : Str) : Scope := { kind := .function, names := [(PySem.Str.ofString "self", .local), (y, .local), (PySem.Str.ofString "__class__", .free), (PySem.Str.ofString "super", .globalImplicit)], isGenerator := false, isCoroutine := false, more := [] }
/-- the fields that the text has -/
def Fld (y : Str) : Prop := y = "part" ∨ y = "name" ∨ y = "index" ∨ y = "most" ∨ y = "line"
structure SupTxt (P : Program) (K : Frag) (mg : Str → Option Value) (x y : Str) (C fI : Addr) : Prop where
  fld : Fld y
  gC : mg x = some (.ref C)
  noS : mg "super" = none
  cls : ∃ nm q N bs bm sn sub ab col dd k0 k1 k2 k3 k5, K.lookup C = some (excClassObj nm q C N bs bm true sn sub ab col dd k0 k1 k2 k3 k5 "ValueError.__new__") ∧ refsVE bm = true
  sa : findIn K (.ref C) "__setattr__" = some (some (.builtin "object.__setattr__"))
  ga : findIn K (.ref C) "__getattribute__" = some (some (.builtin "BaseException.__getattribute__"))
  gg : findIn K (.ref C) "__getattr__" = some none
  noN : findIn K (.ref C) y = some none
  iC : findIn K (.ref C) "__init__" = some (some (.ref fI))
  tC : typeIn K (.ref fI) = some (.type "function")
  kC : keepIn K (.ref C) = true
  exC : subIn K (.ref C) (.type "BaseException") = some true
  veC : subIn K (.ref C) (.type "ValueError") = some true
  mrC : mroIn K C (.ref C) = some true
  tyC : typeIn K (.ref C) = some (.type "type")
  hdC : hasDictIn K C = true
  opq : nsIn K cStatics "thirdparty.any" = some none
  sup : ks_superIn K C C "__init__" = some (some (.builtin "ValueError.__init__"))
  top : (P.main.scope.names.lookup ("super" : Str)).isSome = false
  fn : ∃ (oc : Value) (od : Option Addr) (kV doc pm : Value) (an : Option Addr) (cda : Addr) (ct : Value) (osl : Array (Option Value)) (qual txt : Str) (cc : Addr) (p1 p2 q1 q2 q3 q4 q5 q6 q7 q8 q9 q10 : Pos),
    K.lookup fI = some ⟨oc, od, .func (ksFn "__init__" qual (iA y p1 p2) (iB y txt q1 q2 q3 q4 q5 q6 q7 q8 q9 q10) (iS y) .none kV doc pm an (.ref cda) ct cc), osl⟩ ∧ codeIn K (.ref cda) qual = true ∧
    (∃ (ccl : Value) (cdd : Option Addr) (vs : Array Value) (ccs : Array (Option Value)) (file : Str) (tf : Tok), K.lookup cda = some ⟨ccl, cdd, .fields vs, ccs⟩ ∧ vs[2]? = some (.str file tf) ∧ ((P.main.file : Str) == file) = true) ∧
    (∃ (cl : Value) (cld : Option Addr) (csl : Array (Option Value)), K.lookup cc = some ⟨cl, cld, .cell (some (.ref C)), csl⟩) ∧ (q3.endLine == q5.line) = true
theorem one_size (v : Value) : [v].length ≤ sizeLine := by
  rw [sizeLine_eq]
  exact (by decide : 1 ≤ 16777216)
structure InitEnd (h h' : Heap) (x C dx t1 : Addr) (y : Str) (v : Value) : Prop where
  keep : ∀ b o, b ≠ x → h.get? b = some o → h'.get? b = some o
  obj : h'.get? x = some { cls := .ref C, dict := some dx, data := .fields #[.ref t1, .none, .none, .none, .bool false, .none] }
  dbig : h.objs.size ≤ dx
  dne : dx ≠ x
  ns : h'.Ns1 dx (fun z => if z = y then some v else none)
structure OwnMade (h h' : Heap) (e C d : Addr) (y : Str) (v : Value) : Prop where
  keep : ∀ b o, h.get? b = some o → h'.get? b = some o
  new : h.objs.size ≤ e
  obj : ∃ oe vs, h'.get? e = some oe ∧ oe.cls = .ref C ∧ oe.dict = some d ∧ oe.data = .fields vs ∧ vs[1]? = some .none
  dbig : h.objs.size ≤ d
  dne : d ≠ e
  ns : h'.Ns1 d (fun z => if z = y then some v else none)
theorem ld {M : Model} {A : Around} {E : Value → Shared → Prop} {s : Shared} {env : Env} {m : Str → Option Value} {x : Str} {pos : Pos} {v : Value} {Q : Value → Shared → Prop} (hn : s.heap.Ns env.locals m) (hv : m x = some v) (h : Q v s)
    (hk : env.scope.kind = .function := by rfl) (hl : env.kindOf x = some .local := by rfl) (hd : (x == ("__debug__" : Str)) = false := by decide) :
    wpAny M A (eval (.Name x pos) env) Q E s := wpAny_Name (wpAny_loadName_local hk hl hn hv h) hd
theorem call_eq {o a : Expr} {name : Str} {q3 q5 : Pos} {env : Env} (hline : (q3.endLine == q5.line) = true) (ha : starEach [a] env = [(false, eval a env)]) : eval (.Call (.Attribute o name q3) [a] [] q5) env = (do
      let ov ← attributeBase o name env (eval o env)
      standAt q3.atName
      let (f, first) ← holding [ov] (getMethod ov name (do return (← importBound o env).getD true))
      callWith q5 f first (backTo q5 (starEach [a] env)) []) := by
  show (do
    let ov ← attributeBase o name env (eval o env)
    standAt q3.atName
    methodCall o name q3 q5 env ov 1 (backTo q5 (starEach [a] env)) []) = _
  unfold methodCall methodCallPos calleeOf
  have hf : methodCallForm 1 (backTo q5 (starEach [a] env)) [] = true := by rw [ha]; rfl
  rw [hf, hline]
  rfl
section
variable {prog : Program} {w : World} {A : Around} {E : Value → Shared → Prop}
/-- the wrapper called: ValueError.__init__ of the object anew -/
theorem call_mw {h : Heap} {g : Array GenState} {d : Drawn} {t : Nat} {os : OsState} {nm q : Str} {C N : Addr} {bs bm : List Value} {hdct : Bool} {sn : List Str} {sub : List Value} {ab : Bool} {col : Option Bool} {dd : Option Addr} {k0 k1 k2 k3 k5 : Option Value}
    {u e t0 : Addr} {rest : List Value} {Q : Value → Shared → Prop}
    (hC : h.get? C = some (excClassObj nm q C N bs bm hdct sn sub ab col dd k0 k1 k2 k3 k5 "ValueError.__new__")) (he : h.get? e = some (excO C t0)) (hu : h.get? u = some (kxs_mw "ValueError.__init__" e)) (hrest : rest.length ≤ sizeLine)
    (hq : ∀ h' t1, (∀ b o, b ≠ e → h.get? b = some o → h'.get? b = some o) → h'.get? e = some (excO C t1) → Q .none ⟨h', g, d, t, os⟩) :
    wpAny (model prog w) A (call (.ref u) rest) Q E ⟨h, g, d, t, os⟩ := by
  refine wpAny_call (codeAny_of_tree ?_)
  show wpAny _ A.in1 (callAny (.ref u) ⟨rest, []⟩) _ _ _
  simp only [callAny]
  refine wpAny_bind (wpAny_load hu ?_)
  simp only [kxs_mw, show (Value.type "method-wrapper" == Value.type "method" || Value.type "method-wrapper" == Value.type "builtin_function_or_method" || Value.type "method-wrapper" == Value.type "method-wrapper") = true by decide, if_true]
  refine W.KFB.if_so (by decide) ?_
  refine wpAny_bind (check_bound_init F.excBase_ValueError.toExcCallFacts hC he rfl ?_)
  refine wpAny_bind (wpAny_pure (wpAny_pure ?_))
  refine ⟨plainId_quiet F.excBase_ValueError.init.plain _, codeAny_builtin F.excBase_ValueError.initEntry ?_⟩
  rw [Around.under_plainId F.excBase_ValueError.init.plain _]
  wp_walk
  refine hq _ h.objs.size (fun b o hb ho => ?_) ?_
  · rw [Heap.get?_update_other _ _ (Ne.symm hb)]
    exact Heap.get?_push_of_some _ ho
  · rw [Heap.get?_update_self _ (Heap.get?_push_of_some _ he) rfl]
    rfl
end
section
variable {prog : Program} {w : World} {A : Around} {E : Value → Shared → Prop} {R : Result → Shared → Prop} {s : Shared} {K : Frag} {mg : Str → Option Value} {x y : Str} {C fI : Addr}
theorem sup_init (T : SupTxt prog K mg x y C fI) {e t0 : Addr} {v : Value} (X : K.In s.heap) (hlim : s.heap.NoLimit) (hg : s.heap.Ns mainGlobals mg) (hb : ∃ mb, s.heap.Ns builtinsNs mb ∧ ∀ z : Str, z ≠ "__name__" → mb z = bootBuiltins z)
    (hx : s.heap.get? e = some (excO C t0)) (hnx : K.lookup e = none) (hroom : A.depth < recursionLimit)
    (hq : ∀ h' tk dx t1, InitEnd s.heap h' e C dx t1 y v → R (.ok (.ret .none)) { s with heap := h', toks := tk }) :
    codeAny (model prog w) A (.call (.ref fI) ⟨[.ref e, v], []⟩) R s := by
  obtain ⟨oc, od, kV, doc, pm, an, cda, ct, osl, qual, txt, cc, p1, p2, q1, q2, q3, q4, q5, q6, q7, q8, q9, q10, ho, hcd, ⟨ccl, cdd, vs, ccs, file, tf, hcda, hvs, hfile⟩, ⟨cl, cld, csl, hcc⟩, hline⟩ := T.fn
  obtain ⟨nm, q, N, bs, bm, sn, sub, ab, col, dd, k0, k1, k2, k3, k5, hC, hbm⟩ := T.cls
  have hcl : clsIn K C = some { name := nm, bases := bs, mro := .ref C :: bm, ns := N, qualname := q, hasDict := true, slotNames := sn, subclasses := sub, abstract := ab, collection := col, hasDel := false } := by unfold clsIn; rw [hC] <;> rfl
  have hsup := T.sup
  unfold ks_superIn at hsup
  rw [hcl] at hsup
  have noN := T.noN
  have fld := T.fld
  have sa := T.sa
  have veC := T.veC
  have mrC := T.mrC
  have opq := T.opq
  have noS := T.noS
  have top := T.top
  clear T
  rcases fld with rfl | rfl | rfl | rfl | rfl
  all_goals
    refine ks_codeAny_call_defAt (fd := ksFn "__init__" qual (iA _ p1 p2) (iB _ txt q1 q2 q3 q4 q5 q6 q7 q8 q9 q10) (iS _) .none kV doc pm an (.ref cda) ct cc) (body := iB _ txt q1 q2 q3 q4 q5 q6 q7 q8 q9 q10) (binds := [("self", .ref e), (_, v)]) hroom (X _ _ ho) rfl hlim (codeRec_of X hcd) rfl
      (BindsTo.of_eq (by first | rfl | with_unfolding_all rfl)) (by
        intro z hz
        have hz' : z ∈ (iS _).names := hz
        simp only [iS, List.mem_cons, List.not_mem_nil, or_false] at hz'
        rcases hz' with rfl | rfl | rfl | rfl <;> decide)
      (by
        intro z hz
        simp only [List.mem_cons, List.not_mem_nil, or_false] at hz
        rcases hz with rfl | rfl <;> first | rfl | decide | decide +kernel) (fun h₁ hn k => ?_) rfl rfl rfl
    obtain ⟨hp, g, d, t, os⟩ := s
    have X₁ : K.In h₁ := X.keeps k
    have hx₁ := k _ _ hx
    have hL : hp.objs.size ≠ e := Nat.ne_of_gt (Heap.lt_size hx)
    refine ks_wpAt_execs_cons (ks_wpAt_Expr_any (ks_wpAt_MethodCall ?_ (call_eq hline rfl)))
    refine ks_wpAt_super_base (f := fI) (cc := cda) (by first | rfl | with_unfolding_all rfl) (by first | rfl | with_unfolding_all rfl) (by decide) rfl (X₁ _ _ ho) rfl (by rfl) rfl (X₁ _ _ hcda) rfl hvs hfile top ?_
    obtain ⟨mb, hmb, hmbv⟩ := hb
    refine ks_loadName_global rfl (by first | rfl | with_unfolding_all rfl) (loadGlobal_builtin (hg.keeps k) noS (hmb.keeps k) ((hmbv _ (by decide)).trans (by first | rfl | decide +kernel | kernel_rfl)) ⟨rfl, ?_⟩)
    refine wpAny_loadName_free rfl (by first | rfl | with_unfolding_all rfl) (by first | rfl | with_unfolding_all rfl) ⟨_, X₁ _ _ hcc, rfl⟩ ?_
    refine wpAny_loadName_local rfl (by first | rfl | with_unfolding_all rfl) hn (v := .ref e) (by first | rfl | with_unfolding_all rfl | kernel_rfl) ?_
    refine ks_wpAny_isType_cls (X₁ _ _ hC) rfl ⟨rfl, ?_⟩
    refine ks_wpAny_call_super (X₁ _ _ hC) rfl hx₁ rfl (fun c z => by cases z) (looks_mroIn X₁ mrC) (fun h₂ hso k₂ => ?_)
    have X₂ : K.In h₂ := X₁.keeps k₂
    have hx₂ := k₂ _ _ hx₁
    have hneC : e ≠ C := fun z => by rw [z, hC] at hnx; cases hnx
    have I₂ : InstAt h₂ e (excO C t0) C none := ⟨hx₂, rfl, rfl, trivial⟩
    refine kxs_getMethod kxs_ValueError hso (looks_opaque X₂ opq) (l₀ := .ref C :: bm) (fun A Q E s k q => wpAny_bind ((looks_clsIn X₂ hcl) A _ E s k (wpAny_pure q))) rfl X₂ hsup (I₂.type.andThen (looks_subIn X₂ veC)) hneC (by decide) ?_
    refine kxs_callWith (i := "ValueError.__init__") (x := e) (by rfl) (evalArgs_plain (spliced_cons (wpAny_Constant_str (k := 0) (pos := q4) (spliced_nil ⟨Heap.get?_push_at rfl rfl, ?_⟩))))
    have up : ∀ b o, h₂.get? b = some o → (h₂.push (kxs_mw "ValueError.__init__" e)).get? b = some o := fun b o z => Heap.get?_push_of_some _ z
    refine call_mw (up _ _ (X₂ _ _ hC)) (up _ _ hx₂) (Heap.get?_push_at rfl rfl) (one_size _) (fun h₃ t1 k₃ hx₃ => ?_)
    have kk : ∀ b o, b ≠ e → h₁.get? b = some o → h₃.get? b = some o := fun b o z q => k₃ b o z (up _ _ (k₂ _ _ q))
    have X₃ : K.In h₃ := fun a o q => kk a o (fun z => by rw [z, hnx] at q; cases q) (X₁ a o q)
    obtain ⟨oL, es, ep, hoL, rL⟩ := hn
    have hn₃ : h₃.Ns hp.objs.size _ := ⟨oL, es, ep, kk _ _ hL hoL, rL⟩
    show wpAt _ _ _ (execs _ _) _ _ _
    refine wpAt_of_wpAny ?_
    refine wpAny_execs_cons (plainObj_wpAny_Assign_Attribute ?_)
    refine ld (v := v) hn₃ (by first | rfl | with_unfolding_all rfl | kernel_rfl) (ld (v := .ref e) hn₃ (by first | rfl | with_unfolding_all rfl | kernel_rfl) ?_)
    refine set_plain X₃ (ox := excO C t1) (od := none) ⟨hx₃, rfl, rfl, trivial⟩ sa ?_
    refine exc_osa X₃ hx₃ hcl (show refsVE (.ref C :: bm) = true from hbm) rfl noN (fun h₄ tk₄ dx k₄ dn dne hx₄ hn₄ => ?_)
    refine wpAny_execs_nil (hq h₄ tk₄ dx t1 ⟨fun b o hb z => k₄ b o hb (kk b o hb (k b o z)), hx₄, ?_, dne, hn₄⟩)
    have z := Heap.lt_size (kk _ _ hL hoL)
    exact Nat.le_of_lt (Nat.lt_of_lt_of_le z dn)
theorem sup_made (T : SupTxt prog K mg x y C fI) {v : Value} (X : K.In s.heap) (hlim : s.heap.NoLimit) (hg : s.heap.Ns mainGlobals mg) (hb : ∃ mb, s.heap.Ns builtinsNs mb ∧ ∀ z : Str, z ≠ "__name__" → mb z = bootBuiltins z) (hroom : A.depth + 1 < recursionLimit)
    (hq : ∀ h' tk e d, OwnMade s.heap h' e C d y v → R (.ok (.ret (.ref e))) { s with heap := h', toks := tk }) :
    codeAny (model prog w) A (.call (.ref C) ⟨[v], []⟩) R s := by
  obtain ⟨nm, q, N, bs, bm, sn, sub, ab, col, dd, k0, k1, k2, k3, k5, hC, hbm⟩ := T.cls
  obtain ⟨hp, g, dr, tk, os⟩ := s
  have k : ∀ b o, hp.get? b = some o → ((hp.push (kdv_tup [v])).push (excO C hp.objs.size)).get? b = some o := fun b o e => Heap.get?_push_of_some _ (Heap.get?_push_of_some _ e)
  have hget : ((hp.push (kdv_tup [v])).push (excO C hp.objs.size)).get? (hp.objs.size + 1) = some (excO C hp.objs.size) := by heap_get
  have hnx : K.lookup (hp.objs.size + 1) = none := by
    cases e : K.lookup (hp.objs.size + 1) with
    | none => rfl
    | some o =>
      have z : hp.get? (hp.objs.size + 1) = some o := X _ _ e
      exact absurd (Nat.lt_of_succ_lt (Heap.lt_size z)) (Nat.lt_irrefl _)
  refine call_own F.excBase_ValueError (fun X => refsVE_contains X bm hbm) (X _ _ hC) (looks_findIn X T.iC) (fun self => bind_fn X self T.tC) (one_size v) ?_
  obtain ⟨mb, hmb, hmv⟩ := hb
  refine sup_init (s := ⟨(hp.push (kdv_tup [v])).push (excO C hp.objs.size), g, dr, tk, os⟩) T (X.keeps k) (hlim.keeps k) (hg.keeps k) ⟨mb, hmb.keeps k, hmv⟩ hget hnx ?_ fun h' tk' dx t1 ⟨k', hx, dn, dne, hns⟩ => ?_
  · show A.depth + 1 < recursionLimit
    exact hroom
  · have old : ∀ b o, hp.get? b = some o → h'.get? b = some o := fun b o e => k' b o (Nat.ne_of_lt (Nat.lt_succ_of_lt (Heap.lt_size e))) (k b o e)
    have z : hp.objs.size + 1 + 1 ≤ dx := by
      first
        | (simpa only [Heap.size_push] using dn)
        | exact dn
        | (have q := dn; rw [Heap.size_push, Heap.size_push] at q; exact q)
    exact ⟨rfl, hq h' tk' (hp.objs.size + 1) dx ⟨old, Nat.le_succ _, ⟨_, _, hx, rfl, rfl, rfl, rfl⟩, Nat.le_trans (Nat.le_trans (Nat.le_succ _) (Nat.le_succ _)) z, dne, hns⟩⟩
end
end SupX
end PySem
namespace Ox
open PySem PySem.Spec PyProof.Rows L2
theorem relO_one {y : Str} {v : V} {v' : Value} (r : RelV v v') (f : Str) : RelO (List.lookup f [(y, v)]) (if f = y then some v' else none) := by
  by_cases hw : f = y
  · subst hw
    rw [if_pos rfl]
    have q : List.lookup f [(f, v)] = some v := by simp [List.lookup]
    rw [q]
    exact r
  · rw [if_neg hw]
    have qw : (f == y) = false := by simpa using hw
    have q2 : List.lookup f [(y, v)] = none := by simp [List.lookup, qw]
    rw [q2]
    trivial
section
variable {X : Cx} {x y : Str} {C fI : Addr}
/-- the class x, its own field y -/
structure ExcF (P : Program) (K : PySem.W.Frag) (mg : Str → Option Value) (x y : Str) (C : Addr) : Prop where
  ex : ∃ fI, PySem.SupX.SupTxt P K mg x y C fI
/-- X(e) -/
def tMkS (C : Addr) (y : Str) (ta : TA) : L2.St → Hp → XK → Prop := fun σ H Q => ta σ H fun vs H1 => ∃ v, vs = [v] ∧ ∀ d, H1 d = none → Q (.ref C) (some d) (upd H1 d (.xd [(y, v)]))
theorem pmk_sup {a : Expr} {ta : TA} {p pos : Pos} {k : Nat} (T : ExcF X.prog X.K X.mg x y C) (hr : Room k X.A) (ha : PA X [a] ta) (hg : Gl X x)
    (hdb : (x == ("__debug__" : Str)) = false := by decide) (he : starEach (a :: []) X.env = (false, eval a X.env) :: starEach [] X.env := by rfl) (hpl : (backTo pos (starEach [] X.env)).any (·.1) = false := by rfl) :
    PMk X (.Call (.Name x p) [a] [] pos) (tMkS C y ta) := by
  obtain ⟨fI, T⟩ := T.ex
  intro pins s σ H Q I h
  refine wpAny_Call_Name_kw (ld_glob I hg T.gC ?_ hdb)
  refine PySem.W.callWith_K (h₀ := X.base) I.ok.mod.kin T.kC (thn (ha.run pos pins s σ H _ I h) fun us s1 hh => ?_) he hpl
  obtain ⟨vs, H1, I1, r1, v, ev, q1⟩ := hh
  subst ev
  refine ⟨I1.kIn, ?_⟩
  cases r1 with
  | cons rv rn =>
    rename_i v' us'
    cases rn
    show wpAny _ _ (call (.ref C) [v']) _ _ _
    have hlim := I1.nolimit
    obtain ⟨mb, hmb, hmv⟩ := I1.mod.blt
    have hbl : ∃ mb, s1.heap.Ns builtinsNs mb ∧ ∀ z : Str, z ≠ "__name__" → mb z = bootBuiltins z := ⟨mb, hmb.keeps I1.bk, hmv⟩
    have hgl : s1.heap.Ns mainGlobals X.mg := I1.mod.glob.keeps I1.bk
    obtain ⟨hp, g, dr, tk, os⟩ := s1
    refine wpAny_call (PySem.SupX.sup_made T I1.kIn hlim hgl hbl (by have := hr.dp; omega) fun h' tk' e d M => ?_)
    show MkP X pins σ Q (.ref e) ⟨h', g, dr, tk', os⟩
    obtain ⟨oe, fv, hoe, hc, hd, hdat, h1⟩ := M.obj
    have hns := M.ns
    obtain ⟨G', g1, g2⟩ := restrict h' fun b => decide (b ≠ e)
    have gk : ∀ b, b ≠ e → G'.get? b = h'.get? b := fun b hb => g1 b (decide_eq_true hb)
    have ge : G'.get? e = none := g2 e (by simp)
    have old : ∀ b o, hp.get? b = some o → G'.get? b = some o := fun b o q => (gk b (Nat.ne_of_lt (Nat.lt_of_lt_of_le (Heap.lt_size q) M.new))).trans (M.keep b o q)
    have ob : ObjOk X.prog X.w (upd H1 d (.xd [(y, v)])) G' d (.xd [(y, v)]) :=
      ⟨_, hns.at (fun o q => (gk d M.dne).trans q), fun f => relO_one rv f⟩
    have J : Inv X pins σ (upd H1 d (.xd [(y, v)])) ⟨G', g, dr, tk', os⟩ := I1.laid (t' := tk') old M.dbig ob
    refine ⟨e, oe, fv, ⟨G', g, dr, tk', os⟩, _, .ref C, some d, rfl, J, fun b o q => ?_, ge, hoe, ⟨hc, hd⟩, hdat, h1, ?_, rfl, I1.bare, raises_own T.exC T.tyC, q1 d (I1.hok.fresh M.dbig)⟩
    · by_cases hb : b = e
      · have q' : G'.get? b = some o := q
        rw [hb, ge] at q'; cases q'
      · exact (gk b hb).symm.trans q
    · rw [upd_ne (Ne.symm M.dne)]
      exact I1.hok.fresh M.new
/-- raise X(e) -/
def tRaiseS (C : Addr) (y : Str) (W : WX) (ta : TA) : TS := fun _ σ H => tMkS C y ta σ H fun cls d H' => W cls d σ H'
theorem ps_raiseS {a : Expr} {ta : TA} {W : WX} {p pos pos2 : Pos} {k : Nat} (hc : X.calm = true) (tk : Takes X W) (T : ExcF X.prog X.K X.mg x y C) (hr : Room k X.A) (hg : Gl X x) (ha : PA X [a] ta) (hdb : (x == ("__debug__" : Str)) = false := by decide)
    (he : starEach (a :: []) X.env = (false, eval a X.env) :: starEach [] X.env := by rfl) (hpl : (backTo pos (starEach [] X.env)).any (·.1) = false := by rfl) :
    PS X (.Raise (some (.Call (.Name x p) [a] [] pos)) none pos2) (tRaiseS C y W ta) := ps_raise hc tk (pmk_sup T hr ha hg hdb he hpl)
/-- the exceptions that a read of the field y fits: its class told of the written part -/
structure ExcG (K : PySem.W.Frag) (C : Addr) (y : Str) : Prop where
  ga : PySem.W.findIn K (.ref C) "__getattribute__" = some (some (.builtin "BaseException.__getattribute__"))
  gg : PySem.W.findIn K (.ref C) "__getattr__" = some none
  exC : PySem.W.subIn K (.ref C) (.type "BaseException") = some true
  hdC : PySem.W.hasDictIn K C = true
  noN : PySem.W.findIn K (.ref C) y = some none
/-- e.y, e the exception that the suite holds (at a; its class cls, its dict d) -/
def tByS (K : PySem.W.Frag) (y : Str) (a : Addr) (cls : Value) (d : Option Addr) (te : TE) : TE := fun σ H Q => te σ H fun x H1 => x = .ref a ∧ ∃ (C dd : Addr) (v : V), cls = .ref C ∧ ExcG K C y ∧ d = some dd ∧ H1 dd = some (.xd [(y, v)]) ∧ Q v H1
theorem pe_byS {a : Addr} {oe : Obj} {cls : Value} {d : Option Addr} {pn : List (Addr × Obj)} {e : Expr} {te : TE} {pos : Pos} (hz : Zc cls d oe) (hf : ∃ vs, oe.data = .fields vs) (he : PE (X.suite a ((a, oe) :: pn)) e te)
    (hb : attributeBase e y X.env (eval e X.env) = eval e X.env := by rfl) :
    PE (X.suite a ((a, oe) :: pn)) (.Attribute e y pos) (tByS X.K y a cls d te) := by
  refine ⟨fun pins s σ H Q I h => ?_⟩
  refine attr_of hb (thn (he.run pins s σ H _ I h) fun u s1 hh => ?_)
  obtain ⟨x, H1, I1, rx, ex, C, dd, v, ec, T, ed, ea, q⟩ := hh
  subst ex
  obtain rfl : u = Value.ref a := rx
  subst ec
  subst ed
  obtain ⟨ha, _⟩ := I1.pin (a, oe) (List.mem_append_left _ List.mem_cons_self)
  obtain ⟨vs, hd⟩ := hf
  have hx : ObjOk X.prog X.w H1 s1.heap dd (.xd [(y, v)]) := I1.hok dd _ ea
  obtain ⟨mA, hns, hr⟩ := hx
  obtain ⟨od, ho, hl⟩ := lookIn_ns hns
  have l : List.lookup y [(y, v)] = some v := by simp [List.lookup]
  obtain ⟨u, hu, ru⟩ := RelO.some_of (v := v) (o := mA y) (by rw [← l]; exact hr y)
  have J : PySem.W.InstAt s1.heap a oe C (some od) := ⟨ha, hz.1, by unfold PySem.W.notCls; rw [hd] <;> rfl, by rw [hz.2]; exact ho⟩
  exact HandSPX.exc_get I1.kIn J T.ga T.gg T.exC (PySem.W.findObj_own T.hdC T.noN rfl (by rw [hl, hu])) (handed_of ru) ⟨v, H1, I1.tok _, ru, q⟩
end
section
variable {σ : L2.St} {H : Hp} {W : WX} {D : Ends} {C : Addr} {y : Str} {K : PySem.W.Frag}
/-- raised -/
theorem x_raiseS {ta : TA} (q : ta σ H fun vs H1 => ∃ v, vs = [v] ∧ ∀ d, H1 d = none → W (.ref C) (some d) σ (upd H1 d (.xd [(y, v)]))) : tRaiseS C y W ta D σ H := q
end
end Ox

/-! Own layer: several except clauses, each with a name or without; == of sequences by place or by data. -/
namespace Ox
open PySem PySem.Spec PyProof.Rows L2
/-- a clause: its class, the slot of its name (if it has one), its suite's reading -/
structure Cl where
  c : Value
  nm : Option Nat
  ts : Addr → Value → Option Addr → TS
/-- what a clause that fits wishes -/
def Cl.hit (k : Cl) (D : Ends) : WX := fun cls d σ H => ∀ a, H a = none → match k.nm with
  | some i => k.ts a cls d (sEnds i D) (σ.set i (some (.ref a))) H
  | none => k.ts a cls d D σ H
/-- .. and one clause behind the other -/
def wCls (K : PySem.W.Frag) (Wout : WX) (D : Ends) : List Cl → WX
  | [] => Wout
  | k :: r => fun cls d σ H => ∃ b, PySem.W.exmOne K cls k.c = some b ∧ (b = true → k.hit D cls d σ H) ∧ (b = false → wCls K Wout D r cls d σ H)
/-- the clauses' text -/
inductive ClsOk (X : Cx) : List ExceptHandler → List Cl → Prop
  | nil : ClsOk X [] []
  | named {x n : Str} {c : Value} {i : Nat} {ts : Addr → Value → Option Addr → TS} {b₀ : Stmt} {suite : List Stmt} {np p : Pos} {hds : List ExceptHandler} {l : List Cl} (hi : X.N[i]? = some n) (hn : X.env.kindOf n = some .local) (hc : Names X x c)
      (hsu : ∀ (a : Addr) (oe : Obj) (cls : Value) (d : Option Addr) (pn : List (Addr × Obj)), Zc cls d oe → (∃ vs, oe.data = .fields vs) → X.base.get? a = none → PSs (X.suite a ((a, oe) :: pn)) (b₀ :: suite) (ts a cls d)) (r : ClsOk X hds l) :
      ClsOk X (.ExceptHandler (some (.Name x np)) (some n) (b₀ :: suite) p :: hds) (⟨c, some i, ts⟩ :: l)
  | bare {x : Str} {c : Value} {ts : Addr → Value → Option Addr → TS} {b₀ : Stmt} {suite : List Stmt} {np p : Pos} {hds : List ExceptHandler} {l : List Cl} (hc : Names X x c)
      (hsu : ∀ (a : Addr) (oe : Obj) (cls : Value) (d : Option Addr) (pn : List (Addr × Obj)), Zc cls d oe → (∃ vs, oe.data = .fields vs) → X.base.get? a = none → PSs (X.suite a ((a, oe) :: pn)) (b₀ :: suite) (ts a cls d)) (r : ClsOk X hds l) :
      ClsOk X (.ExceptHandler (some (.Name x np)) none (b₀ :: suite) p :: hds) (⟨c, none, ts⟩ :: l)
section
variable {X : Cx}
/-- the reading of a suite's end goes over to what stands behind it -/
theorem sp_named {pins : List (Addr × Obj)} {a : Addr} {oe : Obj} {pn : List (Addr × Obj)} {i : Nat} {n : Str} {D : Ends} {pos : Pos} {f : Flow} {s : Shared} (ok : X.Ok) (hN : X.N.Nodup) (hi : X.N[i]? = some n) (hn : X.env.kindOf n = some .local)
    (h : SP (X.suite a ((a, oe) :: (X.pn ++ pins))) [] (sEnds i D) f s) :
    wpAny (model X.prog X.w) X.A (do bindName X.env n .none; unbindBehindTheSuite X.env n pos) (fun _ s' => SP X pins D f s') X.xe s := by
  cases f with
  | ret u =>
    obtain ⟨v, σ1, H1, S, r, q⟩ := h
    exact gone_ok (S.unsuite ok) hN hi hn fun s' J => ⟨v, _, _, J, r, q⟩
  | next =>
    obtain ⟨σ1, H1, S, q⟩ := h
    exact gone_ok (S.unsuite ok) hN hi hn fun s' J => ⟨_, _, J, q⟩
  | brk =>
    obtain ⟨σ1, H1, S, q⟩ := h
    exact gone_ok (S.unsuite ok) hN hi hn fun s' J => ⟨_, _, J, q⟩
  | cont =>
    obtain ⟨σ1, H1, S, q⟩ := h
    exact gone_ok (S.unsuite ok) hN hi hn fun s' J => ⟨_, _, J, q⟩
theorem sp_bare {pins : List (Addr × Obj)} {a : Addr} {oe : Obj} {pn : List (Addr × Obj)} {D : Ends} {f : Flow} {s : Shared} (ok : X.Ok) (h : SP (X.suite a ((a, oe) :: (X.pn ++ pins))) [] D f s) : SP X pins D f s := by
  cases f with
  | ret u =>
    obtain ⟨v, σ1, H1, S, r, q⟩ := h
    exact ⟨v, _, _, S.unsuite ok, r, q⟩
  | next =>
    obtain ⟨σ1, H1, S, q⟩ := h
    exact ⟨_, _, S.unsuite ok, q⟩
  | brk =>
    obtain ⟨σ1, H1, S, q⟩ := h
    exact ⟨_, _, S.unsuite ok, q⟩
  | cont =>
    obtain ⟨σ1, H1, S, q⟩ := h
    exact ⟨_, _, S.unsuite ok, q⟩
/-- behind a body that let nothing out -/
theorem sp_body {pins : List (Addr × Obj)} {xe : Value → Shared → Prop} {D : Ends} {f : Flow} {s : Shared} (ok : X.Ok) (h : SP (X.tr (X.pn ++ pins) xe) [] D f s) :
    match f with | .next => wpAny (model X.prog X.w) X.A (execs [] X.env) (SP X pins D) X.xe s | f => SP X pins D f s := by
  cases f with
  | ret u =>
    obtain ⟨v, σ1, H1, S, r, q⟩ := h
    exact ⟨v, _, _, S.ofTry ok, r, q⟩
  | next =>
    obtain ⟨σ1, H1, S, q⟩ := h
    exact wpAny_execs_nil ⟨_, _, S.ofTry ok, q⟩
  | brk =>
    obtain ⟨σ1, H1, S, q⟩ := h
    exact ⟨_, _, S.ofTry ok, q⟩
  | cont =>
    obtain ⟨σ1, H1, S, q⟩ := h
    exact ⟨_, _, S.ofTry ok, q⟩
/-- a caught exception goes through the clauses -/
theorem cls_go {pins : List (Addr × Obj)} {σ : L2.St} {H : Hp} {D : Ends} {Wout : WX} {cls : Value} {d : Option Addr} {a : Addr} {B : Heap} {sI s : Shared} (hst : X.stack = X.env :: X.outer) (hf : X.env.frame = some X.env.locals) (hN : X.N.Nodup) (tk : Takes X Wout)
    (J : Inv X pins σ H sI) (nb : ∀ b o, sI.heap.get? b = some o → b ∉ frs X.stack → B.get? b = some o) (up : sI.heap.UpToSlots s.heap) (fl : HandSPX.FlyingZ B X.stack a (Zc cls d) s.heap) (na : H a = none) (os : s.os = sI.os) (ag : AllBare s.gens) :
    ∀ {hds : List ExceptHandler} {l : List Cl}, ClsOk X hds l → wCls X.K Wout D l cls d σ H → wpAny (model X.prog X.w) X.A (handleBy (.ref a) X.env hds) (SP X pins D) X.xe s := by
  have ok := J.ok
  obtain ⟨hh, g, dr, tk', o'⟩ := s
  -- the place is neither a frame nor tracked
  have far : ∀ {h : Heap} {o : Obj} {vs : Array Value}, h.FunFrames B X.stack → h.get? a = some o → o.data = .fields vs → a ≠ X.env.locals ∧ a ∉ X.fs := by
    intro h o vs ff e dd
    have hm : a ∉ frs X.stack := by
      intro z
      obtain ⟨_, o2, e2, n2⟩ := ff.mem z
      rw [e] at e2
      cases e2
      exact n2 _ dd
    have em : frs X.stack = X.env.locals :: X.fs := by
      rw [hst]
      show List.filterMap _ (X.env :: X.outer) = _
      rw [List.filterMap_cons, hf]
      rfl
    rw [em] at hm
    exact ⟨fun z => hm (by rw [z]; exact List.mem_cons_self ..), fun z => hm (List.mem_cons_of_mem _ z)⟩
  have into : ∀ {h : Heap}, HandSPX.FlyingZ B X.stack a (Zc cls d) h → sI.heap.UpToSlots h → ∃ oe, Zc cls d oe ∧ (∃ vs, oe.data = .fields vs) ∧ h.get? a = some oe ∧ Inv (X.suite a ((a, oe) :: (X.pn ++ pins))) [] σ H ⟨h, g, dr, tk', o'⟩ := by
    intro h f u
    obtain ⟨oe, vs, he, hz, hd⟩ := f.there
    obtain ⟨n1, n2⟩ := far f.2.2.1 he hd
    have J1 : Inv X pins σ H ⟨h, g, dr, tk', o'⟩ := J.landed nb f.1 u os ag
    exact ⟨oe, hz, ⟨vs, hd⟩, he, J1.suite he hd na n1 n2⟩
  -- .. nor of the base
  have hnb : X.base.get? a = none := by
    cases e : X.base.get? a with
    | none => rfl
    | some o =>
      obtain ⟨oe, vs, he, hz, hd⟩ := fl.there
      have hm : a ∉ frs X.stack := by
        intro z
        obtain ⟨_, o2, e2, n2⟩ := fl.2.2.1.mem z
        rw [he] at e2
        cases e2
        exact n2 _ hd
      have z := nb a o (J.bk a o e) hm
      rw [fl.2.1] at z
      cases z
  obtain ⟨oe, hz, hdt, he, S⟩ := into fl up
  have LT : PySem.W.Looks (model X.prog X.w) hh (typeOf (.ref a)) cls := fun A Q E s k q => wpAny_typeOf_ref (k _ _ he) (by rw [hz.1]; exact q)
  have KI : X.K.In hh := S.kIn
  have test : ∀ {x : Str} {c : Value} {np : Pos} {b : Bool} {Q : Value → Shared → Prop} {E : Value → Shared → Prop}, Names X x c → Q c ⟨hh, g, dr, tk', o'⟩ →
      wpAny (model X.prog X.w) (X.A.mark (some (.ref a))) (eval (.Name x np) X.env) Q E ⟨hh, g, dr, tk', o'⟩ := by
    intro x c np b Q E hc q
    obtain ⟨hg, hdb, hm | ⟨hm, hv, hnn⟩⟩ := hc
    · exact ld_glob (X := X.suite a ((a, oe) :: (X.pn ++ pins))) S hg hm q hdb
    · exact ld_blt (X := X.suite a ((a, oe) :: (X.pn ++ pins))) S hg hm hv q hnn hdb
  intro hds l hk
  induction hk with
  | nil =>
    intro w
    refine wpAny_handleBy_nil ?_
    have fl0 := fl
    obtain ⟨_, _, _, oe1, vs1, T, _, _, he1, _, hd1, h1, _⟩ := fl0
    have out : wpAny (model X.prog X.w) X.A (setFlight (.ref a) X.env.frame) (fun _ s4 => wpAny (model X.prog X.w) X.A (throw (.ref a) : Sem Flow) (SP X pins D) X.xe s4) X.xe ⟨hh, g, dr, tk', o'⟩ := by
      rw [hf]
      refine HandSPX.setFlight_upZ fl fun h4 held up4 => wpAny_throw (tk _ _ ?_)
      exact ⟨a, B, sI, pins, σ, H, cls, d, rfl, J, nb, up.trans up4, .inr (.inr held), na, os, ag, w⟩
    unfold PySem.passOn
    refine wpAny_bind (wpAny_field he1 hd1 h1 ?_)
    rw [if_neg (by simp)]
    first
      | exact wpAny_bind (wpAny_pure (wpAny_bind out))
      | exact wpAny_bind out
  | @named x n c i ts b₀ suite np p hds l hi hn hc hsu r ih =>
    intro w
    obtain ⟨b, hb, yes, no⟩ := w
    refine wpAny_handleBy_cons (codeAny_handlers_test ?_) (by intro q; cases q)
    refine test (b := b) hc ((PySem.W.exm_one (M := model X.prog X.w) KI LT hb).here ?_)
    cases b with
    | false => exact ih (no rfl)
    | true =>
      refine codeAny_handlers_suite_as (HandSPX.lands_againZ fl fun h4 fl4 up4 => ?_)
      obtain ⟨oe4, hz4, hd4, _, S4⟩ := into fl4 (up.trans up4)
      refine store_ok (X := X.suite a ((a, oe4) :: (X.pn ++ pins))) (v := .ref a) S4 hN hi (.inl hn) rfl (fun s5 S5 => ?_) (.inr hn)
      exact wpAny_mono ((hsu a oe4 cls d (X.pn ++ pins) hz4 hd4 hnb).run [] s5 _ H _ S5 (yes rfl a na)) (fun f s6 h6 => sp_named (pn := X.pn ++ pins) ok hN hi hn h6) fun _ _ z => False.elim z
  | @bare x c ts b₀ suite np p hds l hc hsu r ih =>
    intro w
    obtain ⟨b, hb, yes, no⟩ := w
    refine wpAny_handleBy_cons (codeAny_handlers_test ?_) (by intro q; cases q)
    refine test (b := b) hc ((PySem.W.exm_one (M := model X.prog X.w) KI LT hb).here ?_)
    cases b with
    | false => exact ih (no rfl)
    | true =>
      refine codeAny_handlers_suite (HandSPX.lands_againZ fl fun h4 fl4 up4 => ?_)
      obtain ⟨oe4, hz4, hd4, _, S4⟩ := into fl4 (up.trans up4)
      exact wpAny_mono ((hsu a oe4 cls d (X.pn ++ pins) hz4 hd4 hnb).run [] _ _ H _ S4 (yes rfl a na)) (fun f s6 h6 => sp_bare (pn := X.pn ++ pins) ok h6) fun _ _ z => False.elim z
/-- its reading -/
def tTryC (K : PySem.W.Frag) (l : List Cl) (tb : WX → TS) (Wout : WX) : TS := fun D σ H => tb (wCls K Wout D l) D σ H
theorem ps_tryC {body : List Stmt} {h₀ : ExceptHandler} {hds : List ExceptHandler} {l : List Cl} {pos : Pos} {tb : WX → TS} {Wout : WX} (hN : X.N.Nodup) (hs : X.stack = X.env :: X.outer) (hf : X.env.frame = some X.env.locals) (tk : Takes X Wout)
    (hb : ∀ (W : WX) (pn : List (Addr × Obj)) (xe : Value → Shared → Prop), Takes (X.tr pn xe) W → PassesOwn (model X.prog X.w) X.A X.env xe → PSs (X.tr pn xe) body (tb W))
    (hh : ClsOk X (h₀ :: hds) l) : PS X (.Try body (h₀ :: hds) [] [] pos) (tTryC X.K l tb Wout) := by
  refine ⟨fun pins s σ H D I h => ?_⟩
  have ok := I.ok
  refine wpAny_Try_except ?_
  refine wpAny_mono ((hb (wCls X.K Wout D l) (X.pn ++ pins) (fun e s₁ => wpAny (model X.prog X.w) X.A (noteFrame e X.env) (fun _ s₂ => wpAny (model X.prog X.w) X.A (setFlight e none) (fun _ s₃ =>
    wpAny (model X.prog X.w) X.A (handleBy e X.env (h₀ :: hds)) (SP X pins D) X.xe s₃) X.xe s₂) X.xe s₁) (fun u s' air => ?_) PassesOwn.looking).run [] s σ H D (I.toTry _) h) (fun f s1 z => by cases f <;> exact sp_body ok z) (fun e s1 z => z)
  obtain ⟨a, B, sI, pins', σ', H', cls, d, rfl, J', nb, up, sky, na, os, ag, w⟩ := air
  have J : Inv X pins σ' H' sI := J'.ofTry ok
  have sky' : Sky B (X.env :: X.outer) a (Zc cls d) X.env.locals s'.heap := by rw [← hs]; exact sky
  show wpAny (model X.prog X.w) X.A (noteFrame (.ref a) X.env) _ _ _
  refine Sky.land Zc.steady (by rw [ok.frames, hs]) hf sky' fun h3 fl3 up3 => ?_
  exact cls_go (s := { s' with heap := h3 }) hs hf hN tk J nb (up.trans up3) (by rw [hs]; exact fl3) na os ag hh w
end
/-! ### == and != of sequences whose items are the same things, or equal data -/
mutual
inductive Alk (K : PySem.W.Frag) (H : Hp) : Nat → V → V → Prop
  | ref {n : Nat} (a : Addr) : Alk K H n (.ref a) (.ref a)
  | str {n : Nat} (x : Str) : Alk K H n (.str x) (.str x)
  | dat {n : Nat} {x y : V} {d : PyData} : Dp K H x d → Dp K H y d → SeqAt.shaped d = true → Alk K H n x y
  | tup {n : Nat} {a b : Addr} {xs ys : List V} : SqT K H a xs → SqT K H b ys → AlkA K H n xs ys → Alk K H (n + 1) (.ref a) (.ref b)
  | lst {n : Nat} {a b : Addr} {xs ys : List V} : SqL K H a xs → SqL K H b ys → AlkA K H n xs ys → Alk K H (n + 1) (.ref a) (.ref b)
inductive AlkA (K : PySem.W.Frag) (H : Hp) : Nat → List V → List V → Prop
  | nil {n : Nat} : AlkA K H n [] []
  | cons {n : Nat} {x y : V} {xs ys : List V} : Alk K H n x y → AlkA K H n xs ys → AlkA K H n (x :: xs) (y :: ys)
end
theorem Alk.int {K : PySem.W.Frag} {H : Hp} {n : Nat} (i : Int) : Alk K H n (.int i) (.int i) := .dat (.int i) (.int i) rfl
theorem Alk.bl {K : PySem.W.Frag} {H : Hp} {n : Nat} (b : Bool) : Alk K H n (.bl b) (.bl b) := .dat (.bl b) (.bl b) rfl
theorem Alk.non {K : PySem.W.Frag} {H : Hp} {n : Nat} : Alk K H n .non .non := .dat .non .non rfl
section
variable {X : Cx} {pins : List (Addr × Obj)} {σ : L2.St} {H : Hp} {s : Shared}
theorem AlkA.len {K : PySem.W.Frag} {n : Nat} : ∀ {xs ys : List V}, AlkA K H n xs ys → xs.length = ys.length
  | _, _, .nil => rfl
  | _, _, .cons _ r => by simp [r.len]
theorem vals_size : ∀ {xs : List V} {us : List Value}, Vals xs us → us.length = xs.length
  | _, _, .nil => rfl
  | _, _, .cons _ r => by simp [vals_size r]
theorem all_true {n : Nat} : ((List.range n).all fun _ => true) = true := by simp
mutual
theorem Alk.eq (I : Inv X pins σ H s) : ∀ {n : Nat} {x y : V}, Alk X.K H n x y → ∀ {u v : Value}, RelV x u → RelV y v → ∀ A : Around, A.units + 64 + n < cLine → SeqAt.EqAt A s u v true
  | _, _, _, .ref a, u, v, ru, rv, A, hu => by
    obtain rfl : u = Value.ref a := ru
    obtain rfl : v = Value.ref a := rv
    exact SeqAt.EqAt.same _
  | _, _, _, .str x, u, v, ru, rv, A, hu => by
    obtain ⟨t1, rfl⟩ := ru
    obtain ⟨t2, rfl⟩ := rv
    have e := SeqAt.EqAt.str_str (A := A) (s := s) x t1 x t2
    rw [beq_self_eq_true] at e
    exact e
  | _, _, _, .dat (d := d) h1 h2 hs, u, v, ru, rv, A, hu => by
    obtain ⟨as, r1⟩ := Dp.reads I d _ _ h1 ru
    obtain ⟨bs, r2⟩ := Dp.reads I d _ _ h2 rv
    have cl := SeqAt.canLay_of_shaped hs
    have e := SeqAt.eqAt_reads d d A s u v as bs r1 r2 cl cl (SeqAt.room_of_shaped hs (by omega))
    rw [SeqAt.eqv_refl d cl] at e
    exact e
  | _, _, _, .tup (n := n) (a := a) (b := b) h1 h2 hs, u, v, ru, rv, A, hu => by
    obtain rfl : u = Value.ref a := ru
    obtain rfl : v = Value.ref b := rv
    obtain ⟨is, w1, t1, _⟩ := I.tuple h1
    obtain ⟨js, w2, t2, _⟩ := I.tuple h2
    by_cases hab : a = b
    · subst hab; exact SeqAt.EqAt.same _
    · intro prog w E Q hq
      refine SeqAt.EqIn.of_refs hab (fun E Q hq => ?_) E Q hq
      refine SeqAt.rcIn_tuples (e := fun _ => true) t1 t2 (by omega) (fun j j1 j2 => (AlkA.eq I hs w1 w2 A.in1 (by show A.units + 1 + 64 + n < cLine; omega) j (by simpa using j1) (by simpa using j2)).inModel prog w) ?_
      have e : is.toArray.size = js.toArray.size := by rw [List.size_toArray, List.size_toArray, vals_size w1, vals_size w2, hs.len]
      rw [all_true, e, beq_self_eq_true]
      exact hq
  | _, _, _, .lst (n := n) (a := a) (b := b) h1 h2 hs, u, v, ru, rv, A, hu => by
    obtain rfl : u = Value.ref a := ru
    obtain rfl : v = Value.ref b := rv
    obtain ⟨is, w1, t1, _⟩ := I.list h1
    obtain ⟨js, w2, t2, _⟩ := I.list h2
    by_cases hab : a = b
    · subst hab; exact SeqAt.EqAt.same _
    · intro prog w E Q hq
      refine SeqAt.EqIn.of_refs hab (fun E Q hq => ?_) E Q hq
      have e : is.toArray.size = js.toArray.size := by rw [List.size_toArray, List.size_toArray, vals_size w1, vals_size w2, hs.len]
      refine SeqAt.rcIn_lists (e := fun _ => true) t1.isList t2.isList e (by omega) (fun j j1 j2 => (AlkA.eq I hs w1 w2 A.in1 (by show A.units + 1 + 64 + n < cLine; omega) j (by simpa using j1) (by simpa using j2)).inModel prog w) ?_
      rw [all_true]
      exact hq
theorem AlkA.eq (I : Inv X pins σ H s) : ∀ {n : Nat} {xs ys : List V}, AlkA X.K H n xs ys → ∀ {us vs : List Value}, Vals xs us → Vals ys vs → ∀ A : Around, A.units + 64 + n < cLine → ∀ j (j1 : j < us.length) (j2 : j < vs.length), SeqAt.EqAt A s us[j] vs[j] true
  | _, _, _, .nil, _, _, .nil, .nil, A, hu, j, j1, j2 => by simp at j1
  | _, _, _, .cons h t, _, _, .cons r1 w1, .cons r2 w2, A, hu, 0, j1, j2 => Alk.eq I h r1 r2 A hu
  | _, _, _, .cons h t, _, _, .cons r1 w1, .cons r2 w2, A, hu, j + 1, j1, j2 => AlkA.eq I t w1 w2 A hu j (by simpa using j1) (by simpa using j2)
end
/-- both are tuples, or both lists -/
def SqAlk (K : PySem.W.Frag) (H : Hp) (x y : V) : Prop := ∃ (a b : Addr) (xs ys : List V) (n : Nat), x = .ref a ∧ y = .ref b ∧ n ≤ 30 ∧ AlkA K H n xs ys ∧ ((SqT K H a xs ∧ SqT K H b ys) ∨ (SqL K H a xs ∧ SqL K H b ys))
def rEqA (K : PySem.W.Frag) : R2 := fun x y H Q => SqAlk K H x y ∧ Q (.bl true) H
def rNeA (K : PySem.W.Frag) : R2 := fun x y H Q => SqAlk K H x y ∧ Q (.bl false) H
theorem op_eqA (hu : X.A.units + 100 < cLine) : OpR X (compareOp .Eq) (rEqA X.K) := by
  intro pins s σ H x y v u Q I rx ry h
  obtain ⟨⟨a, b, xs, ys, n, rfl, rfl, hn, al, hs⟩, q⟩ := h
  obtain rfl : v = Value.ref a := rx
  obtain rfl : u = Value.ref b := ry
  show wpAny _ _ (richCompare .Eq (.ref a) (.ref b)) _ _ _
  rcases hs with ⟨h1, h2⟩ | ⟨h1, h2⟩
  · obtain ⟨is, w1, t1, _⟩ := I.tuple h1
    obtain ⟨js, w2, t2, _⟩ := I.tuple h2
    have e : is.toArray.size = js.toArray.size := by rw [List.size_toArray, List.size_toArray, vals_size w1, vals_size w2, al.len]
    refine SeqAt.rcIn_tuples (e := fun _ => true) t1 t2 (by omega) (fun j j1 j2 => (AlkA.eq I al w1 w2 X.A.in1 (by show X.A.units + 1 + 64 + n < cLine; omega) j (by simpa using j1) (by simpa using j2)).inModel _ _) ?_
    rw [all_true, e, beq_self_eq_true]
    exact ⟨.bl true, H, I, rfl, q⟩
  · obtain ⟨is, w1, t1, _⟩ := I.list h1
    obtain ⟨js, w2, t2, _⟩ := I.list h2
    have e : is.toArray.size = js.toArray.size := by rw [List.size_toArray, List.size_toArray, vals_size w1, vals_size w2, al.len]
    refine SeqAt.rcIn_lists (e := fun _ => true) t1.isList t2.isList e (by omega) (fun j j1 j2 => (AlkA.eq I al w1 w2 X.A.in1 (by show X.A.units + 1 + 64 + n < cLine; omega) j (by simpa using j1) (by simpa using j2)).inModel _ _) ?_
    rw [all_true]
    exact ⟨.bl true, H, I, rfl, q⟩
theorem op_neA (hu : X.A.units + 100 < cLine) : OpR X (compareOp .NotEq) (rNeA X.K) := by
  intro pins s σ H x y v u Q I rx ry h
  obtain ⟨⟨a, b, xs, ys, n, rfl, rfl, hn, al, hs⟩, q⟩ := h
  obtain rfl : v = Value.ref a := rx
  obtain rfl : u = Value.ref b := ry
  show wpAny _ _ (richCompare .NotEq (.ref a) (.ref b)) _ _ _
  rcases hs with ⟨h1, h2⟩ | ⟨h1, h2⟩
  · obtain ⟨is, w1, t1, _⟩ := I.tuple h1
    obtain ⟨js, w2, t2, _⟩ := I.tuple h2
    have e : is.toArray.size = js.toArray.size := by rw [List.size_toArray, List.size_toArray, vals_size w1, vals_size w2, al.len]
    refine SeqAt.RcNeAt.tuples (e := fun _ => true) t1 t2 (by omega) (fun j j1 j2 => AlkA.eq I al w1 w2 X.A.in1 (by show X.A.units + 1 + 64 + n < cLine; omega) j (by simpa using j1) (by simpa using j2)) _ _ _ _ ?_
    rw [all_true, e, beq_self_eq_true]
    exact ⟨.bl false, H, I, rfl, q⟩
  · obtain ⟨is, w1, t1, _⟩ := I.list h1
    obtain ⟨js, w2, t2, _⟩ := I.list h2
    have e : is.toArray.size = js.toArray.size := by rw [List.size_toArray, List.size_toArray, vals_size w1, vals_size w2, al.len]
    refine SeqAt.RcNeAt.lists (e := fun _ => true) t1.isList t2.isList e (by omega) (fun j j1 j2 => AlkA.eq I al w1 w2 X.A.in1 (by show X.A.units + 1 + 64 + n < cLine; omega) j (by simpa using j1) (by simpa using j2)) _ _ _ _ ?_
    rw [all_true]
    exact ⟨.bl false, H, I, rfl, q⟩
end
/-! ### methods that may raise -/
def tMethX (C : Addr) (m : Str) (sp : Sp) (E : L2.St → XK) (ta : TE) (t : TA) : TE := fun σ H Q => ta σ H fun x H1 => ∃ a dx fs, x = .ref a ∧ H1 a = some (.ins C dx fs) ∧ fs.lookup m = none ∧ t σ H1 fun vs H2 => sp (x :: vs) H2 Q (E σ)
section
variable {X : Cx} {k : Nat} {C : Addr} {m : Str} {ps : List Str} {sp : Sp} {o e : Expr} {es : List Expr} {ta : TE} {t : TA} {apos pos : Pos} {pl : Sem Bool} {W : WX}
theorem pe_mtX (M : MetX X.prog X.w X.K X.mg X.base C k m ps sp) (kc : Cls X.K C) (hr : Room k X.A) (tk : Takes X W) (he : PE X o ta) (ha : PA X (e :: es) t)
    (hst : starEach (e :: es) X.env = (false, eval e X.env) :: starEach es X.env := by rfl) (hpl : (backTo pos (starEach es X.env)).any (·.1) = false := by rfl)
    (ht : eval (.Call (.Attribute o m apos) (e :: es) [] pos) X.env = (do let ov ← eval o X.env; standAt apos.atName; let (f, first) ← holding [ov] (getMethod ov m pl); callWith pos f first (backTo pos (starEach (e :: es) X.env)) (backToKw pos (keywordEach [] X.env))) := by rfl) :
    PE X (.Call (.Attribute o m apos) (e :: es) [] pos) (tMethX C m sp (WE W) ta t) := by
  obtain ⟨f, fd, mt, F, hb⟩ := M.ex
  refine ⟨fun pins s σ H Q I h => PySem.W.methodCall_KW (pl := pl) (thn (he.run pins s σ H _ I h) ?_) ht⟩
  rintro u s1 ⟨_, H1, I1, rx, a, dx, fs, rfl, ea, l, q⟩
  cases (show u = Value.ref a from rx)
  refine getmeth_ok I1 ea kc mt l (PySem.W.callWith_K (first := [.ref a]) (h₀ := X.base) I.ok.mod.kin mt.kp (thn (ha.run pos pins s1 σ H1 _ I1 q) ?_) hst hpl)
  rintro us s2 ⟨vs, H2, I2, r, q2⟩
  exact ⟨I2.kIn, run_fnS (us := .ref a :: us) (vs := .ref a :: vs) F hr hb (passAt tk σ) I2 (.cons rfl r) q2⟩
end
section
variable {σ : L2.St} {H : Hp} {Q : VK} {D : Ends} {ta : TE} {al : TA} {C : Addr} {m : Str} {sp : Sp} {E : L2.St → XK} {K : PySem.W.Frag} {W Wout : WX} {cls : Value} {d : Option Addr} {k : Cl} {r : List Cl} {tb : WX → TS} {l : List Cl}
theorem x_mtX (h : ta σ H fun x H1 => rMtA C m x H1 (al σ H1 fun vs H2 => sp (x :: vs) H2 Q (E σ))) : tMethX C m sp E ta al σ H Q := h
theorem x_tryC (q : tb (wCls K Wout D l) D σ H) : tTryC K l tb Wout D σ H := q
theorem x_hit (e : PySem.W.exmOne K cls k.c = some true) (q : k.hit D cls d σ H) : wCls K Wout D (k :: r) cls d σ H := ⟨true, e, fun _ => q, fun z => nomatch z⟩
theorem x_miss (e : PySem.W.exmOne K cls k.c = some false) (q : wCls K Wout D r cls d σ H) : wCls K Wout D (k :: r) cls d σ H := ⟨false, e, (fun z => nomatch z), fun _ => q⟩
theorem x_hitN {c : Value} {i : Nat} {ts : Addr → Value → Option Addr → TS} (e : PySem.W.exmOne K cls c = some true) (q : ∀ a, H a = none → ts a cls d (sEnds i D) (σ.set i (some (.ref a))) H) : WE (wCls K Wout D (⟨c, some i, ts⟩ :: r)) σ cls d H := x_hit e q
theorem x_hitB {c : Value} {ts : Addr → Value → Option Addr → TS} (e : PySem.W.exmOne K cls c = some true) (q : ∀ a, H a = none → ts a cls d D σ H) : WE (wCls K Wout D (⟨c, none, ts⟩ :: r)) σ cls d H := x_hit e q
theorem x_missE (e : PySem.W.exmOne K cls k.c = some false) (q : WE (wCls K Wout D r) σ cls d H) : WE (wCls K Wout D (k :: r)) σ cls d H := x_miss e q
theorem x_byV {y : Str} {a : Addr} {dd : Addr} {v : V} {i : Nat} {C : Addr} (G : ExcG K C y) (hv : σ[i]? = some (some (.ref a))) (hd : H dd = some (.xd [(y, v)])) (q : Q v H) : tByS K y a (.ref C) (some dd) (tVar i) σ H Q :=
  ⟨.ref a, hv, rfl, C, dd, v, rfl, G, rfl, hd, q⟩
theorem hu100 {k : Nat} {A : Around} (r : Room k A) : A.units + 100 < cLine := by have := r.un; omega
end
end Ox

/-! Own layer: == and != of nested lists, tuples and dicts, both answers. -/
namespace PySem.SeqAt
open AutoSeq1 (wpAny_loadPart')
open MeetsSeq MeetsSeq2 MeetsSeq3 SeqRoads2 PySem
section
variable {prog : Program} {w : World}
/-- tuples compared from the left: an item is asked only if all ahead of it are equal -/
theorem tuple_eqInX (l b : Addr) (items items2 : Array Value) (n n2 : Nat) (dd dd2 : Option Addr) (sl sl2 : Array (Option Value)) (e : Nat → Bool) :
    MeetsIn prog w (Builtin.«tuple.__eq__» ⟨[.ref l, .ref b], []⟩)
      (fun A R s => s.heap.get? l = some { cls := .type "tuple", dict := dd, data := .seq items n, slots := sl } ∧ s.heap.get? b = some { cls := .type "tuple", dict := dd2, data := .seq items2 n2, slots := sl2 } ∧
        (∀ j (h1 : j < items.size) (h2 : j < items2.size), (∀ i, i < j → e i = true) → EqIn prog w A.in1 s items[j] items2[j] (e j)) ∧
        R (.ok (.ret (.bool ((List.range (min items.size items2.size)).all e && items.size == items2.size)))) s) :=
  .of_wp fun A R s h => by
    obtain ⟨hp, g, d, tk, os⟩ := s; obtain ⟨hl, hb, he, h⟩ := h
    have f2 := AutoSeq1.sub_tuple_tuple
    have hZ : (items.toList.zip items2.toList).length = min items.size items2.size := by simp
    wp_walk using wpAny_loadPart' hl, wpAny_loadPart' hb, wpAny_forIn_list _ (fun rest b s' => b.1 = none ∧ s' = ⟨hp, g, d, tk, os⟩ ∧ ∃ i, rest = (items.toList.zip items2.toList).drop i ∧ (∀ i', i' < i → e i' = true) ∧
      R (.ok (.ret (.bool (((List.range (min items.size items2.size)).drop i).all e && items.size == items2.size)))) ⟨hp, g, d, tk, os⟩) _
    case turn =>
      rintro ⟨y, x⟩ rest b s' ⟨hb', rfl, i, hz, hp', hR⟩
      have hlt : i < (items.toList.zip items2.toList).length := by
        rcases Nat.lt_or_ge i (items.toList.zip items2.toList).length with h' | h'
        · exact h'
        · rw [List.drop_of_length_le h'] at hz; cases hz
      have hm : i < min items.size items2.size := hZ ▸ hlt
      have h1 : i < items.size := Nat.lt_of_lt_of_le hm (Nat.min_le_left _ _)
      have h2 : i < items2.size := Nat.lt_of_lt_of_le hm (Nat.min_le_right _ _)
      rw [List.drop_eq_getElem_cons hlt] at hz
      injection hz with hyx hrest
      have hy : y = items[i] := by have := congrArg Prod.fst hyx; simpa using this
      have hx : x = items2[i] := by have := congrArg Prod.snd hyx; simpa using this
      subst hy hx
      have hd : (List.range (min items.size items2.size)).drop i = i :: (List.range (min items.size items2.size)).drop (i + 1) := by simp [List.drop_eq_getElem_cons, hm]
      rw [hd, List.all_cons] at hR
      refine wpAny_bind (he i h1 h2 hp' _ _ ?_)
      cases hy : e i with
      | true =>
        rw [hy] at hR
        wp_walk
        exact ⟨rfl, rfl, i + 1, hrest, (fun i' hi => by rcases Nat.lt_succ_iff_lt_or_eq.mp hi with h | h; exact hp' i' h; rw [h]; exact hy), by simpa using hR⟩
      | false =>
        rw [hy] at hR
        wp_walk
        exact ⟨_, rfl, by simpa using hR⟩
    case fin =>
      rintro ⟨b1, b2⟩ s' ⟨hb', rfl, i, hz, _, hR⟩
      simp only at hb'
      subst hb'
      have hge : min items.size items2.size ≤ i := by
        rcases Nat.lt_or_ge i (items.toList.zip items2.toList).length with h' | h'
        · rw [List.drop_eq_getElem_cons h'] at hz; cases hz
        · exact hZ ▸ h'
      rw [List.drop_of_length_le (by simpa using hge)] at hR
      wp_walk
      exact ⟨_, rfl, by simpa [Builtin.Tuple.tupleCompareSizes] using hR⟩
    case h =>
      exact ⟨rfl, rfl, 0, rfl, (fun _ h => absurd h (Nat.not_lt_zero _)), by simpa using h⟩
end
section
variable {prog : Program} {w : World} {A : Around} {s : Shared}
theorem rcIn_tuplesX {E : Value → Shared → Prop} {l b : Addr} {items items2 : Array Value} {e : Nat → Bool} {Q : Value → Shared → Prop} (hl : s.heap.IsTuple l items) (hb : s.heap.IsTuple b items2) (hu : A.units < cLine)
    (he : ∀ j (h1 : j < items.size) (h2 : j < items2.size), (∀ i, i < j → e i = true) → EqIn prog w A.in1 s items[j] items2[j] (e j)) (h : Q (.bool ((List.range (min items.size items2.size)).all e && items.size == items2.size)) s) :
    wpAny (model prog w) A (richCompare .Eq (.ref l) (.ref b)) Q E s := by
  obtain ⟨⟨cls, dd, data, sl⟩, ho, hc, n, hd⟩ := id hl
  obtain ⟨⟨cls2, dd2, data2, sl2⟩, ho2, hc2, n2, hd2⟩ := id hb
  simp only at hc hd hc2 hd2
  subst hc hd hc2 hd2
  exact wpAny_richCompare_same_room (T := "tuple") (op := .Eq) ⟨_, ho, rfl⟩ ⟨_, ho2, rfl⟩ F.slot_tuple_eq (call_meetsIn F.slot_tuple_eq ⟨_, ho, rfl⟩ F.entry_tuple_eq (F.args_tuple_eq_2 _ _) (tuple_eqInX l b items items2 n n2 dd dd2 sl sl2 e)
    ⟨ho, ho2, he, show Value.bool ((List.range (min items.size items2.size)).all e && items.size == items2.size) ≠ Value.notImplemented ∧ Q (.bool ((List.range (min items.size items2.size)).all e && items.size == items2.size)) s from ⟨(fun x => nomatch x), h⟩⟩) hu
end
end PySem.SeqAt
namespace PySem.W
open Lean Elab Tactic Meta PySem PySem.Calls PyProof.Rows PyProof.V PySem.Spec
open PySem.SeqAt (EqIn EqAt rcIn_lists rcIn_tuples)
section
variable {prog : Program} {w : World} {K : Type} [DecidableEq K] {knd : KeyKind prog w K} {A : Around} {E : Value → Shared → Prop} {s : Shared}
theorem keq_neInX {a b : Addr} {ka kb : List (K × Value)} {r : Bool} {Q : Value → Shared → Prop} (ha : (a == sysModules) = false) (hb : (b == sysModules) = false)
    (da : s.heap.DictOf knd a ka) (db : s.heap.DictOf knd b kb) (hu : A.units < cLine) (hits : ka.length = kb.length → KeqHitsIn prog w A.in1 s kb ka r) (h : Q (.bool (!(ka.length == kb.length && r))) s) :
    wpAny (model prog w) A (compareOp .NotEq (.ref a) (.ref b)) Q E s := by
  refine wpAny_richCompare_same_room (op := .NotEq) da.typeIs db.typeIs PySem.F.slot_dict_ne (wpAny_call_entry PySem.F.slot_dict_ne da.typeIs PySem.F.entry_dict_ne ?_ (PySem.F.args_dict_ne_2 _ _)) hu
  show wpAny _ _ (Builtin.Dict.dictSlotArgs "__ne__" ⟨[.ref a, .ref b], []⟩ >>= _) _ _ s
  refine wpAny_bind ?_
  unfold Builtin.Dict.dictSlotArgs
  refine wpAny_bind (wpAny_notOrdered_dict da.typeIs ?_)
  show wpAny _ _ (pure (Value.ref a, Value.ref b)) _ _ s
  refine wpAny_pure ?_
  refine wpAny_bind (wpAny_isInstance (T := "dict") db.typeIs PySem.F.sub_dict_dict ?_)
  simp only [Bool.not_true, Bool.false_eq_true, if_false]
  refine wpAny_bind (wpAny_pure (wpAny_bind (wpAny_pure ?_)))
  refine wpAny_bind (keq_samePairsIn ha hb da db hits ?_)
  refine wpAny_pure ⟨_, rfl, ?_, ?_⟩
  · exact fun x => nomatch x
  · simpa using h
end
end PySem.W
namespace Ox
open PySem PySem.Spec PyProof.Rows L2
/-- x == y answers r, and no deeper than n -/
inductive Eqd (K : PySem.W.Frag) (H : Hp) : Nat → V → V → Bool → Prop
  | dat {n : Nat} {x y : V} {d d' : PyData} (hx : Dp K H x d) (hy : Dp K H y d') (hs : SeqAt.shaped d = true) (hs' : SeqAt.shaped d' = true) : Eqd K H (n + 65) x y (PyData.eqv d d')
  | str {n : Nat} (x y : Str) : Eqd K H n (.str x) (.str y) (x == y)
  | int {n : Nat} (x y : Int) : Eqd K H n (.int x) (.int y) (x == y)
  | ref {n : Nat} (a : Addr) : Eqd K H n (.ref a) (.ref a) true
  | tup {n : Nat} {a b : Addr} {xs ys : List V} {e : Nat → Bool} {r : Bool} (h1 : SqT K H a xs) (h2 : SqT K H b ys) (he : ∀ (j : Nat) (x y : V), xs[j]? = some x → ys[j]? = some y → (∀ i, i < j → e i = true) → Eqd K H n x y (e j)) (ab : a = b → r = true)
      (er : ((List.range (min xs.length ys.length)).all e && (xs.length == ys.length)) = r) : Eqd K H (n + 1) (.ref a) (.ref b) r
  | dct {n : Nat} {a b : Addr} {ks ls : List (Key × V)} {e : Key → Bool} {r : Bool} (h1 : Rd H a (.dK ks)) (h2 : Rd H b (.dK ls)) (he : ∀ (k : Key) (v u : V), (k, v) ∈ ks → valV ls k = some u → Eqd K H n v u (e k)) (ab : a = b → r = true)
      (er : ((ks.length == ls.length) && ks.all fun p => (valV ls p.1).isSome && e p.1) = r) : Eqd K H (n + 1) (.ref a) (.ref b) r
theorem kv_fst {ks : List (Key × V)} {va : List (Key × Value)} (ra : KV ks va) (f : Key → Bool) : (va.all fun p => f p.1) = ks.all fun p => f p.1 := by
  unfold KV at ra
  induction ra with
  | nil => rfl
  | @cons p q ps qs h t k =>
    show (f q.1 && _) = (f p.1 && _)
    rw [h.1, k]
theorem kv_mem {ks : List (Key × V)} {va : List (Key × Value)} (ra : KV ks va) {k : Key} {v : Value} (h : (k, v) ∈ va) : ∃ x, (k, x) ∈ ks ∧ RelV x v := by
  unfold KV at ra
  induction ra with
  | nil => cases h
  | @cons p q ps qs hh t ih =>
    rcases List.mem_cons.mp h with e | h
    · obtain ⟨p1, p2⟩ := p
      cases e
      obtain ⟨h1, h2⟩ := hh
      have h1 : p1 = k := h1
      subst h1
      exact ⟨p2, List.mem_cons_self, h2⟩
    · obtain ⟨x, hx, r⟩ := ih h
      exact ⟨x, List.mem_cons_of_mem _ hx, r⟩
theorem relO_some {o : Option V} {p : Option Value} (r : RelO o p) : p.isSome = o.isSome := by
  cases o with
  | none => cases p with
    | none => rfl
    | some v => exact (show False from r).elim
  | some x => cases p with
    | none => exact (show False from r).elim
    | some v => rfl
theorem relO_back {o : Option V} {v : Value} (r : RelO o (some v)) : ∃ x, o = some x ∧ RelV x v := by
  cases o with
  | none => exact (show False from r).elim
  | some x => exact ⟨x, rfl, r⟩
theorem vals_at {xs : List V} {us : List Value} (w : Vals xs us) {j : Nat} (h : j < us.length) : ∃ x, xs[j]? = some x ∧ RelV x us[j] := by
  have hl : j < xs.length := by rw [w.length]; exact h
  obtain ⟨u, hu, r⟩ := w.get (List.getElem?_eq_getElem hl)
  rw [List.getElem?_eq_getElem h] at hu
  cases hu
  exact ⟨_, List.getElem?_eq_getElem hl, r⟩
section
theorem dct_all {va vb : List (Key × Value)} {ks ls : List (Key × V)} {e : Key → Bool} (ra : KV ks va) (rb : KV ls vb) : ((va.length == vb.length) && va.all fun p => (PySem.valueAt vb p.1).isSome && e p.1) = ((ks.length == ls.length) && ks.all fun p => (valV ls p.1).isSome && e p.1) := by
  have e1 : (va.all fun p => (PySem.valueAt vb p.1).isSome && e p.1) = ks.all fun p => (valV ls p.1).isSome && e p.1 := by
    rw [kv_fst ra fun k => (PySem.valueAt vb k).isSome && e k]
    refine List.all_congr rfl fun p => ?_
    rw [relO_some (rb.val p.1)]
  rw [e1, ← Paired.length ra, ← Paired.length rb]
variable {X : Cx} {pins : List (Addr × Obj)} {σ : L2.St} {H : Hp} {s : Shared}
theorem Eqd.at (I : Inv X pins σ H s) {n : Nat} {x y : V} {b : Bool} (t : Eqd X.K H n x y b) : ∀ {u v : Value}, RelV x u → RelV y v → ∀ A : Around, A.units + n < cLine → SeqAt.EqIn X.prog X.w A s u v b := by
  induction t with
  | @dat n x y d d' hx hy hs hs' =>
    intro u v ru rv A hu
    obtain ⟨as, r1⟩ := Dp.reads I d _ _ hx ru
    obtain ⟨bs, r2⟩ := Dp.reads I d' _ _ hy rv
    exact (SeqAt.eqAt_reads d d' A s u v as bs r1 r2 (SeqAt.canLay_of_shaped hs) (SeqAt.canLay_of_shaped hs') (SeqAt.room_of_shaped hs (by omega))).inModel _ _
  | str x y =>
    intro u v ru rv A hu
    obtain ⟨t1, rfl⟩ := ru
    obtain ⟨t2, rfl⟩ := rv
    exact (SeqAt.EqAt.str_str x t1 y t2).inModel _ _
  | int x y =>
    intro u v ru rv A hu
    obtain ⟨t1, rfl⟩ := ru
    obtain ⟨t2, rfl⟩ := rv
    exact (SeqAt.EqAt.int_int x t1 y t2).inModel _ _
  | ref a =>
    intro u v ru rv A hu
    obtain rfl : u = Value.ref a := ru
    obtain rfl : v = Value.ref a := rv
    exact (SeqAt.EqAt.same _).inModel _ _
  | @tup n a b xs ys e r h1 h2 he ab er ih =>
    intro u v ru rv A hu
    obtain rfl : u = Value.ref a := ru
    obtain rfl : v = Value.ref b := rv
    by_cases hab : a = b
    · subst hab
      rw [ab rfl]
      exact (SeqAt.EqAt.same _).inModel _ _
    · obtain ⟨is, w1, t1, _⟩ := I.tuple h1
      obtain ⟨js, w2, t2, _⟩ := I.tuple h2
      refine SeqAt.EqIn.of_refs hab fun E Q hq => SeqAt.rcIn_tuplesX (e := e) t1 t2 (by omega) (fun j j1 j2 hp => ?_) ?_
      · obtain ⟨x, hx, rx⟩ := vals_at w1 (j := j) (by simpa using j1)
        obtain ⟨y, hy, ry⟩ := vals_at w2 (j := j) (by simpa using j2)
        exact ih j x y hx hy hp (by simpa using rx) (by simpa using ry) A.in1 (by show A.units + 1 + n < cLine; omega)
      · rw [List.size_toArray, List.size_toArray, ← w1.length, ← w2.length, er]
        exact hq
  | @dct n a b ks ls e r h1 h2 he ab er ih =>
    intro u v ru rv A hu
    obtain rfl : u = Value.ref a := ru
    obtain rfl : v = Value.ref b := rv
    by_cases hab : a = b
    · subst hab
      rw [ab rfl]
      exact (SeqAt.EqAt.same _).inModel _ _
    · obtain ⟨_, ya, va, ra, da⟩ := dk_rd I.hok h1
      obtain ⟨_, yb, vb, rb, db⟩ := dk_rd I.hok h2
      refine SeqAt.EqIn.of_refs hab fun E Q hq => PySem.W.keq_eqIn (knd := mixKind X.prog X.w) ya yb da db (by omega) (fun _ => PySem.W.KeqHitsIn.of (e := e) _ fun k v y hm hv => ?_) ?_
      · obtain ⟨x, hx, rx⟩ := kv_mem ra hm
        have rr := rb.val k
        rw [hv] at rr
        obtain ⟨z, hz, rz⟩ := relO_back rr
        exact ih k x z hx hz rx rz A.in1 (by show A.units + 1 + n < cLine; omega)
      · rw [dct_all ra rb, er]
        exact hq
end
/-- two lists of one length, or two dicts, compared -/
def EqTop (K : PySem.W.Frag) (H : Hp) (n : Nat) (x y : V) (r : Bool) : Prop :=
  (∃ a b xs ys e, x = .ref a ∧ y = .ref b ∧ SqL K H a xs ∧ SqL K H b ys ∧ xs.length = ys.length ∧ (∀ (j : Nat) (x y : V), xs[j]? = some x → ys[j]? = some y → Eqd K H n x y (e j)) ∧ (List.range xs.length).all e = r) ∨ DctTop K H n x y r
where DctTop (K : PySem.W.Frag) (H : Hp) (n : Nat) (x y : V) (r : Bool) : Prop := ∃ (a b : Addr) (ks ls : List (Key × V)) (e : Key → Bool), x = .ref a ∧ y = .ref b ∧ Rd H a (.dK ks) ∧ Rd H b (.dK ls) ∧ (∀ (k : Key) (v u : V), (k, v) ∈ ks → valV ls k = some u → Eqd K H n v u (e k)) ∧ ((ks.length == ls.length) && ks.all fun p => (valV ls p.1).isSome && e p.1) = r
def rEqX (K : PySem.W.Frag) : R2 := fun x y H Q => ∃ n r, n ≤ 90 ∧ EqTop K H n x y r ∧ Q (.bl r) H
def rNeX (K : PySem.W.Frag) : R2 := fun x y H Q => ∃ n r, n ≤ 90 ∧ EqTop.DctTop K H n x y r ∧ Q (.bl (!r)) H
section
variable {X : Cx}
theorem op_eqX (hu : X.A.units + 100 < cLine) : OpR X (compareOp .Eq) (rEqX X.K) := by
  intro pins s σ H x y v u Q I rx ry h
  obtain ⟨n, r, hn, h, q⟩ := h
  rcases h with ⟨a, b, xs, ys, e, rfl, rfl, h1, h2, hl, he, er⟩ | ⟨a, b, ks, ls, e, rfl, rfl, h1, h2, he, er⟩
  · obtain rfl : v = Value.ref a := rx
    obtain rfl : u = Value.ref b := ry
    obtain ⟨is, w1, t1, _⟩ := I.list h1
    obtain ⟨js, w2, t2, _⟩ := I.list h2
    have hsz : is.toArray.size = js.toArray.size := by rw [List.size_toArray, List.size_toArray, ← w1.length, ← w2.length, hl]
    show wpAny _ _ (richCompare .Eq (.ref a) (.ref b)) _ _ _
    refine SeqAt.rcIn_lists (e := e) t1.isList t2.isList hsz (by omega) (fun j j1 j2 => ?_) ?_
    · obtain ⟨x, hx, rx⟩ := vals_at w1 (j := j) (by simpa using j1)
      obtain ⟨y, hy, ry⟩ := vals_at w2 (j := j) (by simpa using j2)
      exact (he j x y hx hy).at I (by simpa using rx) (by simpa using ry) X.A.in1 (by show X.A.units + 1 + n < cLine; omega)
    · rw [List.size_toArray, ← w1.length, er]
      exact ⟨.bl r, H, I, rfl, q⟩
  · obtain rfl : v = Value.ref a := rx
    obtain rfl : u = Value.ref b := ry
    obtain ⟨_, ya, va, ra, da⟩ := dk_rd I.hok h1
    obtain ⟨_, yb, vb, rb, db⟩ := dk_rd I.hok h2
    refine PySem.W.keq_eqIn (knd := mixKind X.prog X.w) ya yb da db (by omega) (fun _ => PySem.W.KeqHitsIn.of (e := e) _ fun k v y hm hv => ?_) ?_
    · obtain ⟨x, hx, rx⟩ := kv_mem ra hm
      have rr := rb.val k
      rw [hv] at rr
      obtain ⟨z, hz, rz⟩ := relO_back rr
      exact (he k x z hx hz).at I rx rz X.A.in1 (by show X.A.units + 1 + n < cLine; omega)
    · rw [dct_all ra rb, er]
      exact ⟨.bl r, H, I, rfl, q⟩
theorem op_neX (hu : X.A.units + 100 < cLine) : OpR X (compareOp .NotEq) (rNeX X.K) := by
  intro pins s σ H x y v u Q I rx ry h
  obtain ⟨n, r, hn, ⟨a, b, ks, ls, e, rfl, rfl, h1, h2, he, er⟩, q⟩ := h
  obtain rfl : v = Value.ref a := rx
  obtain rfl : u = Value.ref b := ry
  obtain ⟨_, ya, va, ra, da⟩ := dk_rd I.hok h1
  obtain ⟨_, yb, vb, rb, db⟩ := dk_rd I.hok h2
  refine PySem.W.keq_neInX (knd := mixKind X.prog X.w) ya yb da db (by omega) (fun _ => PySem.W.KeqHitsIn.of (e := e) _ fun k v y hm hv => ?_) ?_
  · obtain ⟨x, hx, rx⟩ := kv_mem ra hm
    have rr := rb.val k
    rw [hv] at rr
    obtain ⟨z, hz, rz⟩ := relO_back rr
    exact (he k x z hx hz).at I rx rz X.A.in1 (by show X.A.units + 1 + n < cLine; omega)
  · rw [dct_all ra rb, er]
    exact ⟨.bl (!r), H, I, rfl, q⟩
end
end Ox

namespace Law
open PySem PySem.Spec PyProof.Rows L2 Ox
abbrev N__wall : List Str := ["k"]
theorem sc__wall : FnScope N__wall ["k"] (defScope s__wall) := ⟨rfl, rfl, rfl, by decide +kernel, rfl, by decide +kernel, by decide +kernel⟩
theorem bd__wall {K : PySem.W.Frag} {f : Addr} {fd : FuncData} (F : Fun K "_wall" "_wall" s__wall f fd) : Binds K fd ["k"] [] := F.binds fun _ _ _ _ _ _ us hl => match us, hl with | [_], _ => rfl
abbrev N_is_integer : List Str := ["thing"]
theorem sc_is_integer : FnScope N_is_integer ["thing"] (defScope s_is_integer) := ⟨rfl, rfl, rfl, by decide +kernel, rfl, by decide +kernel, by decide +kernel⟩
theorem bd_is_integer {K : PySem.W.Frag} {f : Addr} {fd : FuncData} (F : Fun K "is_integer" "is_integer" s_is_integer f fd) : Binds K fd ["thing"] [] := F.binds fun _ _ _ _ _ _ us hl => match us, hl with | [_], _ => rfl
abbrev N_is_name : List Str := ["thing", "char"]
theorem sc_is_name : FnScope N_is_name ["thing"] (defScope s_is_name) := ⟨rfl, rfl, rfl, by decide +kernel, rfl, by decide +kernel, by decide +kernel⟩
theorem bd_is_name {K : PySem.W.Frag} {f : Addr} {fd : FuncData} (F : Fun K "is_name" "is_name" s_is_name f fd) : Binds K fd ["thing"] [] := F.binds fun _ _ _ _ _ _ us hl => match us, hl with | [_], _ => rfl
abbrev N_is_pair : List Str := ["thing"]
theorem sc_is_pair : FnScope N_is_pair ["thing"] (defScope s_is_pair) := ⟨rfl, rfl, rfl, by decide +kernel, rfl, by decide +kernel, by decide +kernel⟩
theorem bd_is_pair {K : PySem.W.Frag} {f : Addr} {fd : FuncData} (F : Fun K "is_pair" "is_pair" s_is_pair f fd) : Binds K fd ["thing"] [] := F.binds fun _ _ _ _ _ _ us hl => match us, hl with | [_], _ => rfl
abbrev N_is_moves : List Str := ["thing", "names", "move", "to"]
theorem sc_is_moves : FnScope N_is_moves ["thing", "names"] (defScope s_is_moves) := ⟨rfl, rfl, rfl, by decide +kernel, rfl, by decide +kernel, by decide +kernel⟩
theorem bd_is_moves {K : PySem.W.Frag} {f : Addr} {fd : FuncData} (F : Fun K "is_moves" "is_moves" s_is_moves f fd) : Binds K fd ["thing", "names"] [] := F.binds fun _ _ _ _ _ _ us hl => match us, hl with | [_, _], _ => rfl
abbrev N_is_draws : List Str := ["thing", "names", "draw", "pair"]
theorem sc_is_draws : FnScope N_is_draws ["thing", "names"] (defScope s_is_draws) := ⟨rfl, rfl, rfl, by decide +kernel, rfl, by decide +kernel, by decide +kernel⟩
theorem bd_is_draws {K : PySem.W.Frag} {f : Addr} {fd : FuncData} (F : Fun K "is_draws" "is_draws" s_is_draws f fd) : Binds K fd ["thing", "names"] [] := F.binds fun _ _ _ _ _ _ us hl => match us, hl with | [_, _], _ => rfl
abbrev N_is_stand : List Str := ["thing", "hands", "names"]
theorem sc_is_stand : FnScope N_is_stand ["thing", "hands", "names"] (defScope s_is_stand) := ⟨rfl, rfl, rfl, by decide +kernel, rfl, by decide +kernel, by decide +kernel⟩
theorem bd_is_stand {K : PySem.W.Frag} {f : Addr} {fd : FuncData} (F : Fun K "is_stand" "is_stand" s_is_stand f fd) : Binds K fd ["thing", "hands", "names"] [] := F.binds fun _ _ _ _ _ _ us hl => match us, hl with | [_, _, _], _ => rfl
abbrev N_are_stands : List Str := ["thing", "hands", "name", "stand"]
theorem sc_are_stands : FnScope N_are_stands ["thing", "hands"] (defScope s_are_stands) := ⟨rfl, rfl, rfl, by decide +kernel, rfl, by decide +kernel, by decide +kernel⟩
theorem bd_are_stands {K : PySem.W.Frag} {f : Addr} {fd : FuncData} (F : Fun K "are_stands" "are_stands" s_are_stands f fd) : Binds K fd ["thing", "hands"] [] := F.binds fun _ _ _ _ _ _ us hl => match us, hl with | [_, _], _ => rfl
abbrev N_copied : List Str := ["stand", "steps", "ordered", "step"]
theorem sc_copied : FnScope N_copied ["stand"] (defScope s_copied) := ⟨rfl, rfl, rfl, by decide +kernel, rfl, by decide +kernel, by decide +kernel⟩
theorem bd_copied {K : PySem.W.Frag} {f : Addr} {fd : FuncData} (F : Fun K "copied" "copied" s_copied f fd) : Binds K fd ["stand"] [] := F.binds fun _ _ _ _ _ _ us hl => match us, hl with | [_], _ => rfl
abbrev N_leads : List Str := ["work", "stand", "row", "step"]
theorem sc_leads : FnScope N_leads ["work", "stand"] (defScope s_leads) := ⟨rfl, rfl, rfl, by decide +kernel, rfl, by decide +kernel, by decide +kernel⟩
theorem bd_leads {K : PySem.W.Frag} {f : Addr} {fd : FuncData} (F : Fun K "leads" "leads" s_leads f fd) : Binds K fd ["work", "stand"] [] := F.binds fun _ _ _ _ _ _ us hl => match us, hl with | [_, _], _ => rfl
abbrev N_is_ringless : List Str := ["work", "left", "settled", "going", "rest", "name", "to"]
theorem sc_is_ringless : FnScope N_is_ringless ["work"] (defScope s_is_ringless) := ⟨rfl, rfl, rfl, by decide +kernel, rfl, by decide +kernel, by decide +kernel⟩
theorem bd_is_ringless {K : PySem.W.Frag} {f : Addr} {fd : FuncData} (F : Fun K "is_ringless" "is_ringless" s_is_ringless f fd) : Binds K fd ["work"] [] := F.binds fun _ _ _ _ _ _ us hl => match us, hl with | [_], _ => rfl
abbrev N_Work_init : List Str := ["self", "hands", "start", "stands", "name"]
theorem sc_Work_init : FnScope N_Work_init ["self", "hands", "start", "stands"] (defScope s_Work_init) := ⟨rfl, rfl, rfl, by decide +kernel, rfl, by decide +kernel, by decide +kernel⟩
theorem bd_Work_init {K : PySem.W.Frag} {f : Addr} {fd : FuncData} (F : Fun K "__init__" "Work.__init__" s_Work_init f fd) : Binds K fd ["self", "hands", "start", "stands"] [] := F.binds fun _ _ _ _ _ _ us hl => match us, hl with | [_, _, _, _], _ => rfl
abbrev N_Work_stands : List Str := ["self", "name"]
theorem sc_Work_stands : FnScope N_Work_stands ["self"] (defScope s_Work_stands) := ⟨rfl, rfl, rfl, by decide +kernel, rfl, by decide +kernel, by decide +kernel⟩
theorem bd_Work_stands {K : PySem.W.Frag} {f : Addr} {fd : FuncData} (F : Fun K "stands" "Work.stands" s_Work_stands f fd) : Binds K fd ["self"] [] := F.binds fun _ _ _ _ _ _ us hl => match us, hl with | [_], _ => rfl
abbrev N_Work_eq : List Str := ["self", "other"]
theorem sc_Work_eq : FnScope N_Work_eq ["self", "other"] (defScope s_Work_eq) := ⟨rfl, rfl, rfl, by decide +kernel, rfl, by decide +kernel, by decide +kernel⟩
theorem bd_Work_eq {K : PySem.W.Frag} {f : Addr} {fd : FuncData} (F : Fun K "__eq__" "Work.__eq__" s_Work_eq f fd) : Binds K fd ["self", "other"] [] := F.binds fun _ _ _ _ _ _ us hl => match us, hl with | [_, _], _ => rfl
abbrev N_Work_row : List Str := ["self", "stand"]
theorem sc_Work_row : FnScope N_Work_row ["self", "stand"] (defScope s_Work_row) := ⟨rfl, rfl, rfl, by decide +kernel, rfl, by decide +kernel, by decide +kernel⟩
theorem bd_Work_row {K : PySem.W.Frag} {f : Addr} {fd : FuncData} (F : Fun K "row" "Work.row" s_Work_row f fd) : Binds K fd ["self", "stand"] [] := F.binds fun _ _ _ _ _ _ us hl => match us, hl with | [_, _], _ => rfl
abbrev N_Work_kind : List Str := ["self", "stand"]
theorem sc_Work_kind : FnScope N_Work_kind ["self", "stand"] (defScope s_Work_kind) := ⟨rfl, rfl, rfl, by decide +kernel, rfl, by decide +kernel, by decide +kernel⟩
theorem bd_Work_kind {K : PySem.W.Frag} {f : Addr} {fd : FuncData} (F : Fun K "kind" "Work.kind" s_Work_kind f fd) : Binds K fd ["self", "stand"] [] := F.binds fun _ _ _ _ _ _ us hl => match us, hl with | [_, _], _ => rfl
abbrev N_Work_mover : List Str := ["self", "stand"]
theorem sc_Work_mover : FnScope N_Work_mover ["self", "stand"] (defScope s_Work_mover) := ⟨rfl, rfl, rfl, by decide +kernel, rfl, by decide +kernel, by decide +kernel⟩
theorem bd_Work_mover {K : PySem.W.Frag} {f : Addr} {fd : FuncData} (F : Fun K "mover" "Work.mover" s_Work_mover f fd) : Binds K fd ["self", "stand"] [] := F.binds fun _ _ _ _ _ _ us hl => match us, hl with | [_, _], _ => rfl
abbrev N_Work_steps : List Str := ["self", "stand", "row"]
theorem sc_Work_steps : FnScope N_Work_steps ["self", "stand"] (defScope s_Work_steps) := ⟨rfl, rfl, rfl, by decide +kernel, rfl, by decide +kernel, by decide +kernel⟩
theorem bd_Work_steps {K : PySem.W.Frag} {f : Addr} {fd : FuncData} (F : Fun K "steps" "Work.steps" s_Work_steps f fd) : Binds K fd ["self", "stand"] [] := F.binds fun _ _ _ _ _ _ us hl => match us, hl with | [_, _], _ => rfl
abbrev N_Work_to : List Str := ["self", "stand", "step", "row"]
theorem sc_Work_to : FnScope N_Work_to ["self", "stand", "step"] (defScope s_Work_to) := ⟨rfl, rfl, rfl, by decide +kernel, rfl, by decide +kernel, by decide +kernel⟩
theorem bd_Work_to {K : PySem.W.Frag} {f : Addr} {fd : FuncData} (F : Fun K "to" "Work.to" s_Work_to f fd) : Binds K fd ["self", "stand", "step"] [] := F.binds fun _ _ _ _ _ _ us hl => match us, hl with | [_, _, _], _ => rfl
abbrev N_Work_weight : List Str := ["self", "stand", "step", "row"]
theorem sc_Work_weight : FnScope N_Work_weight ["self", "stand", "step"] (defScope s_Work_weight) := ⟨rfl, rfl, rfl, by decide +kernel, rfl, by decide +kernel, by decide +kernel⟩
theorem bd_Work_weight {K : PySem.W.Frag} {f : Addr} {fd : FuncData} (F : Fun K "weight" "Work.weight" s_Work_weight f fd) : Binds K fd ["self", "stand", "step"] [] := F.binds fun _ _ _ _ _ _ us hl => match us, hl with | [_, _, _], _ => rfl
abbrev N_is_value : List Str := ["thing"]
theorem sc_is_value : FnScope N_is_value ["thing"] (defScope s_is_value) := ⟨rfl, rfl, rfl, by decide +kernel, rfl, by decide +kernel, by decide +kernel⟩
theorem bd_is_value {K : PySem.W.Frag} {f : Addr} {fd : FuncData} (F : Fun K "is_value" "is_value" s_is_value f fd) : Binds K fd ["thing"] [] := F.binds fun _ _ _ _ _ _ us hl => match us, hl with | [_], _ => rfl
abbrev N_are_worths : List Str := ["thing", "name", "value"]
theorem sc_are_worths : FnScope N_are_worths ["thing"] (defScope s_are_worths) := ⟨rfl, rfl, rfl, by decide +kernel, rfl, by decide +kernel, by decide +kernel⟩
theorem bd_are_worths {K : PySem.W.Frag} {f : Addr} {fd : FuncData} (F : Fun K "are_worths" "are_worths" s_are_worths f fd) : Binds K fd ["thing"] [] := F.binds fun _ _ _ _ _ _ us hl => match us, hl with | [_], _ => rfl
abbrev N_Wish_init : List Str := ["self", "worths", "endless", "below", "above", "value", "name"]
theorem sc_Wish_init : FnScope N_Wish_init ["self", "worths", "endless"] (defScope s_Wish_init) := ⟨rfl, rfl, rfl, by decide +kernel, rfl, by decide +kernel, by decide +kernel⟩
theorem bd_Wish_init {K : PySem.W.Frag} {f : Addr} {fd : FuncData} (F : Fun K "__init__" "Wish.__init__" s_Wish_init f fd) : Binds K fd ["self", "worths", "endless"] [] := F.binds fun _ _ _ _ _ _ us hl => match us, hl with | [_, _, _], _ => rfl
abbrev N_Wish_worths : List Str := ["self", "name"]
theorem sc_Wish_worths : FnScope N_Wish_worths ["self"] (defScope s_Wish_worths) := ⟨rfl, rfl, rfl, by decide +kernel, rfl, by decide +kernel, by decide +kernel⟩
theorem bd_Wish_worths {K : PySem.W.Frag} {f : Addr} {fd : FuncData} (F : Fun K "worths" "Wish.worths" s_Wish_worths f fd) : Binds K fd ["self"] [] := F.binds fun _ _ _ _ _ _ us hl => match us, hl with | [_], _ => rfl
abbrev N_Wish_eq : List Str := ["self", "other"]
theorem sc_Wish_eq : FnScope N_Wish_eq ["self", "other"] (defScope s_Wish_eq) := ⟨rfl, rfl, rfl, by decide +kernel, rfl, by decide +kernel, by decide +kernel⟩
theorem bd_Wish_eq {K : PySem.W.Frag} {f : Addr} {fd : FuncData} (F : Fun K "__eq__" "Wish.__eq__" s_Wish_eq f fd) : Binds K fd ["self", "other"] [] := F.binds fun _ _ _ _ _ _ us hl => match us, hl with | [_, _], _ => rfl
abbrev N_pool : List Str := ["_law_script", "_law_pool_here", "_law_k", "_law_number"]
theorem sc_pool : FnScope N_pool ["_law_script"] (defScope s_pool) := ⟨rfl, rfl, rfl, by decide +kernel, rfl, by decide +kernel, by decide +kernel⟩
theorem bd_pool {K : PySem.W.Frag} {f : Addr} {fd : FuncData} (F : Fun K "_law_pool" "_law_pool" s_pool f fd) : Binds K fd ["_law_script"] [] := F.binds fun _ _ _ _ _ _ us hl => match us, hl with | [_], _ => rfl
abbrev N_draw : List Str := ["_law_pool_here", "_law_many", "_law_found", "_law_mixed"]
theorem sc_draw : FnScope N_draw ["_law_pool_here", "_law_many"] (defScope s_draw) := ⟨rfl, rfl, rfl, by decide +kernel, rfl, by decide +kernel, by decide +kernel⟩
theorem bd_draw {K : PySem.W.Frag} {f : Addr} {fd : FuncData} (F : Fun K "_law_draw" "_law_draw" s_draw f fd) : Binds K fd ["_law_pool_here", "_law_many"] [] := F.binds fun _ _ _ _ _ _ us hl => match us, hl with | [_, _], _ => rfl
abbrev N_word : List Str := ["_law_pool_here", "_law_longest", "_law_letters", "_law_signs", "_law_word_here", "_law_k"]
theorem sc_word : FnScope N_word ["_law_pool_here", "_law_longest"] (defScope s_word) := ⟨rfl, rfl, rfl, by decide +kernel, rfl, by decide +kernel, by decide +kernel⟩
theorem bd_word {K : PySem.W.Frag} {f : Addr} {fd : FuncData} (F : Fun K "_law_word" "_law_word" s_word f fd) : Binds K fd ["_law_pool_here", "_law_longest"] [] := F.binds fun _ _ _ _ _ _ us hl => match us, hl with | [_, _], _ => rfl
abbrev N_words : List Str := ["_law_pool_here", "_law_many", "_law_longest", "_law_words_here", "_law_k", "_law_word_here", "_law_j"]
theorem sc_words : FnScope N_words ["_law_pool_here", "_law_many"] (defScope s_words) := ⟨rfl, rfl, rfl, by decide +kernel, rfl, by decide +kernel, by decide +kernel⟩
theorem bd_words {K : PySem.W.Frag} {f : Addr} {fd : FuncData} (F : Fun K "_law_words" "_law_words" s_words f fd) : Binds K fd ["_law_pool_here", "_law_many"] [] := F.binds fun _ _ _ _ _ _ us hl => match us, hl with | [_, _], _ => rfl
abbrev N_l_stands : List Str := ["_law_pool_here", "_law_names", "_law_hands", "_law_ringless", "_law_words_here", "_law_stands_here", "_law_k", "_law_low", "_law_kind"]
theorem sc_l_stands : FnScope N_l_stands ["_law_pool_here", "_law_names", "_law_hands", "_law_ringless"] (defScope s_l_stands) := ⟨rfl, rfl, rfl, by decide +kernel, rfl, by decide +kernel, by decide +kernel⟩
theorem bd_l_stands {K : PySem.W.Frag} {f : Addr} {fd : FuncData} (F : Fun K "_law_stands" "_law_stands" s_l_stands f fd) : Binds K fd ["_law_pool_here", "_law_names", "_law_hands", "_law_ringless"] [] := F.binds fun _ _ _ _ _ _ us hl => match us, hl with | [_, _, _, _], _ => rfl
abbrev N_l_stand : List Str := ["_law_pool_here", "_law_names", "_law_words_here", "_law_hands", "_law_kind", "_law_many", "_law_first", "_law_hand", "_law_steps_here", "_law_k", "_law_to"]
theorem sc_l_stand : FnScope N_l_stand ["_law_pool_here", "_law_names", "_law_words_here", "_law_hands", "_law_kind"] (defScope s_l_stand) := ⟨rfl, rfl, rfl, by decide +kernel, rfl, by decide +kernel, by decide +kernel⟩
theorem bd_l_stand {K : PySem.W.Frag} {f : Addr} {fd : FuncData} (F : Fun K "_law_stand" "_law_stand" s_l_stand f fd) : Binds K fd ["_law_pool_here", "_law_names", "_law_words_here", "_law_hands", "_law_kind"] [] := F.binds fun _ _ _ _ _ _ us hl => match us, hl with | [_, _, _, _, _], _ => rfl
abbrev N_l_worths : List Str := ["_law_pool_here", "_law_stands_here", "_law_reach", "_law_wanted", "_law_name"]
theorem sc_l_worths : FnScope N_l_worths ["_law_pool_here", "_law_stands_here"] (defScope s_l_worths) := ⟨rfl, rfl, rfl, by decide +kernel, rfl, by decide +kernel, by decide +kernel⟩
theorem bd_l_worths {K : PySem.W.Frag} {f : Addr} {fd : FuncData} (F : Fun K "_law_worths" "_law_worths" s_l_worths f fd) : Binds K fd ["_law_pool_here", "_law_stands_here"] [] := F.binds fun _ _ _ _ _ _ us hl => match us, hl with | [_, _], _ => rfl
abbrev N_endless : List Str := ["_law_pool_here", "_law_wanted", "_law_values", "_law_side", "_law_gap", "_law_name"]
theorem sc_endless : FnScope N_endless ["_law_pool_here", "_law_wanted"] (defScope s_endless) := ⟨rfl, rfl, rfl, by decide +kernel, rfl, by decide +kernel, by decide +kernel⟩
theorem bd_endless {K : PySem.W.Frag} {f : Addr} {fd : FuncData} (F : Fun K "_law_endless" "_law_endless" s_endless f fd) : Binds K fd ["_law_pool_here", "_law_wanted"] [] := F.binds fun _ _ _ _ _ _ us hl => match us, hl with | [_, _], _ => rfl
abbrev N_l_world : List Str := ["_law_pool_here", "_law_most", "_law_ringless", "_law_hands", "_law_plain", "_law_names", "_law_stands_here", "_law_start", "_law_wanted"]
theorem sc_l_world : FnScope N_l_world ["_law_pool_here", "_law_most", "_law_ringless"] (defScope s_l_world) := ⟨rfl, rfl, rfl, by decide +kernel, rfl, by decide +kernel, by decide +kernel⟩
theorem bd_l_world {K : PySem.W.Frag} {f : Addr} {fd : FuncData} (F : Fun K "_law_world" "_law_world" s_l_world f fd) : Binds K fd ["_law_pool_here", "_law_most", "_law_ringless"] [] := F.binds fun _ _ _ _ _ _ us hl => match us, hl with | [_, _, _], _ => rfl
abbrev N_l_copy : List Str := ["_law_stands_here", "_law_found", "_law_name", "_law_row"]
theorem sc_l_copy : FnScope N_l_copy ["_law_stands_here"] (defScope s_l_copy) := ⟨rfl, rfl, rfl, by decide +kernel, rfl, by decide +kernel, by decide +kernel⟩
theorem bd_l_copy {K : PySem.W.Frag} {f : Addr} {fd : FuncData} (F : Fun K "_law_copy" "_law_copy" s_l_copy f fd) : Binds K fd ["_law_stands_here"] [] := F.binds fun _ _ _ _ _ _ us hl => match us, hl with | [_], _ => rfl
abbrev N_l_steps : List Str := ["_law_stands_here", "_law_name", "_law_row", "_law_step"]
theorem sc_l_steps : FnScope N_l_steps ["_law_stands_here", "_law_name"] (defScope s_l_steps) := ⟨rfl, rfl, rfl, by decide +kernel, rfl, by decide +kernel, by decide +kernel⟩
theorem bd_l_steps {K : PySem.W.Frag} {f : Addr} {fd : FuncData} (F : Fun K "_law_steps" "_law_steps" s_l_steps f fd) : Binds K fd ["_law_stands_here", "_law_name"] [] := F.binds fun _ _ _ _ _ _ us hl => match us, hl with | [_, _], _ => rfl
abbrev N_l_mirror : List Str := ["_law_wanted", "_law_found", "_law_name"]
theorem sc_l_mirror : FnScope N_l_mirror ["_law_wanted"] (defScope s_l_mirror) := ⟨rfl, rfl, rfl, by decide +kernel, rfl, by decide +kernel, by decide +kernel⟩
theorem bd_l_mirror {K : PySem.W.Frag} {f : Addr} {fd : FuncData} (F : Fun K "_law_mirror" "_law_mirror" s_l_mirror f fd) : Binds K fd ["_law_wanted"] [] := F.binds fun _ _ _ _ _ _ us hl => match us, hl with | [_], _ => rfl
abbrev N_l_turned : List Str := ["_law_stands_here", "_law_found", "_law_name", "_law_row", "_law_steps_here", "_law_step"]
theorem sc_l_turned : FnScope N_l_turned ["_law_stands_here"] (defScope s_l_turned) := ⟨rfl, rfl, rfl, by decide +kernel, rfl, by decide +kernel, by decide +kernel⟩
theorem bd_l_turned {K : PySem.W.Frag} {f : Addr} {fd : FuncData} (F : Fun K "_law_turned" "_law_turned" s_l_turned f fd) : Binds K fd ["_law_stands_here"] [] := F.binds fun _ _ _ _ _ _ us hl => match us, hl with | [_], _ => rfl
abbrev N_l_backwards : List Str := ["_law_wanted", "_law_found", "_law_name"]
theorem sc_l_backwards : FnScope N_l_backwards ["_law_wanted"] (defScope s_l_backwards) := ⟨rfl, rfl, rfl, by decide +kernel, rfl, by decide +kernel, by decide +kernel⟩
theorem bd_l_backwards {K : PySem.W.Frag} {f : Addr} {fd : FuncData} (F : Fun K "_law_backwards" "_law_backwards" s_l_backwards f fd) : Binds K fd ["_law_wanted"] [] := F.binds fun _ _ _ _ _ _ us hl => match us, hl with | [_], _ => rfl
abbrev N_l_other : List Str := ["_law_pool_here", "_law_world_here", "_law_kind", "_law_stands_here", "_law_names", "_law_name", "_law_row", "_law_steps_here", "_law_step", "_law_to"]
theorem sc_l_other : FnScope N_l_other ["_law_pool_here", "_law_world_here"] (defScope s_l_other) := ⟨rfl, rfl, rfl, by decide +kernel, rfl, by decide +kernel, by decide +kernel⟩
theorem bd_l_other {K : PySem.W.Frag} {f : Addr} {fd : FuncData} (F : Fun K "_law_other" "_law_other" s_l_other f fd) : Binds K fd ["_law_pool_here", "_law_world_here"] [] := F.binds fun _ _ _ _ _ _ us hl => match us, hl with | [_, _], _ => rfl
abbrev N_l_as_draws : List Str := ["_law_steps_here", "_law_found", "_law_step"]
theorem sc_l_as_draws : FnScope N_l_as_draws ["_law_steps_here"] (defScope s_l_as_draws) := ⟨rfl, rfl, rfl, by decide +kernel, rfl, by decide +kernel, by decide +kernel⟩
theorem bd_l_as_draws {K : PySem.W.Frag} {f : Addr} {fd : FuncData} (F : Fun K "_law_as_draws" "_law_as_draws" s_l_as_draws f fd) : Binds K fd ["_law_steps_here"] [] := F.binds fun _ _ _ _ _ _ us hl => match us, hl with | [_], _ => rfl
abbrev N_l_other_wishes : List Str := ["_law_pool_here", "_law_wanted", "_law_endless_here", "_law_found", "_law_names", "_law_name", "_law_value", "_law_other_here", "_law_below", "_law_above", "_law_word_here", "_law_k", "_law_each"]
theorem sc_l_other_wishes : FnScope N_l_other_wishes ["_law_pool_here", "_law_wanted", "_law_endless_here"] (defScope s_l_other_wishes) := ⟨rfl, rfl, rfl, by decide +kernel, rfl, by decide +kernel, by decide +kernel⟩
theorem bd_l_other_wishes {K : PySem.W.Frag} {f : Addr} {fd : FuncData} (F : Fun K "_law_other_wishes" "_law_other_wishes" s_l_other_wishes f fd) : Binds K fd ["_law_pool_here", "_law_wanted", "_law_endless_here"] [] := F.binds fun _ _ _ _ _ _ us hl => match us, hl with | [_, _, _], _ => rfl
abbrev N_l_spoil_told : List Str := ["_law_stands_here", "_law_name", "_law_row", "_law_steps_here"]
theorem sc_l_spoil_told : FnScope N_l_spoil_told ["_law_stands_here"] (defScope s_l_spoil_told) := ⟨rfl, rfl, rfl, by decide +kernel, rfl, by decide +kernel, by decide +kernel⟩
theorem bd_l_spoil_told {K : PySem.W.Frag} {f : Addr} {fd : FuncData} (F : Fun K "_law_spoil_told" "_law_spoil_told" s_l_spoil_told f fd) : Binds K fd ["_law_stands_here"] [] := F.binds fun _ _ _ _ _ _ us hl => match us, hl with | [_], _ => rfl
abbrev N_law : List Str := ["_law_script", "_law_pool_here", "_law_world_here", "_law_other_here", "_law_given", "_law_work", "_law_name", "_law_found", "_law_second", "_law_third", "_law_worths_here", "_law_wish", "_law_wanted", "_law_step", "_law_to"]
theorem sc_law : FnScope N_law ["_law_script"] (defScope s_law) := ⟨rfl, rfl, rfl, by decide +kernel, rfl, by decide +kernel, by decide +kernel⟩
theorem bd_law {K : PySem.W.Frag} {f : Addr} {fd : FuncData} (F : Fun K "law" "law" s_law f fd) : Binds K fd ["_law_script"] [] := F.binds fun _ _ _ _ _ _ us hl => match us, hl with | [_], _ => rfl
end Law
namespace Law
open PySem PySem.Spec PyProof.Rows L2 Ox
local macro_rules | `(tactic| walk_at "hp") => `(tactic| first
  | assumption
  | exact upd_same
  | (refine (upd_ne ?_).trans ?_; (walk_at "ne"); (walk_at "hp")))
local macro_rules | `(tactic| walk_at "ne") => `(tactic| first
  | assumption
  | exact Ne.symm (by assumption)
  | exact ne_old (by assumption) (by walk_at "hp")
  | exact Ne.symm (ne_old (by assumption) (by walk_at "hp"))
  | exact ne_two (by walk_at "hp") (by walk_at "hp") (by intro z; cases z)
  | exact fun z => absurd z (by decide))
local macro_rules | `(tactic| walk_at "kd") => `(tactic| first
  | exact .non
  | exact .bl _
  | exact .int _
  | exact .str _
  | assumption
  | exact .lst (SqL.of (by walk_at "hp"))
  | exact .tup (SqT.of (by walk_at "hp"))
  | exact .dict (.inl (by walk_at "hp")))
local macro_rules | `(tactic| walk_at "cond") => `(tactic| first
  | omega
  | exact mulok_r (by omega) (by omega)
  | exact mulok_l (by omega) (by omega)
  | exact divok (by omega) (by omega)
  | exact divok2 (by omega) (by omega)
  | exact ⟨by omega, by decide +kernel⟩
  | decide +kernel)
local macro_rules | `(tactic| walk_at "go") => `(tactic| repeat (first
  | (with_reducible refine x_seq ?_)
  | (with_reducible refine x_next ?_)
  | (with_reducible refine x_brk ?_)
  | (with_reducible refine x_cont ?_)
  | (with_reducible refine x_ret ?_)
  | (with_reducible refine x_retN ?_)
  | (with_reducible refine x_set ?_)
  | (with_reducible refine x_if ?_)
  | (with_reducible refine x_drop ?_)
  | (with_reducible refine x_par ?_)
  | (with_reducible refine x_par2 ?_)
  | (with_reducible refine x_setL ?_)
  | ((with_reducible refine' x_var ?xh ?_); (case xh => exact rfl))
  | ((with_reducible refine' x_aug ?xh ?_); (case xh => exact rfl))
  | (with_reducible refine x_c ?_)
  | (with_reducible refine x_op ?_)
  | (with_reducible refine x_un ?_)
  | (with_reducible refine x_I0 ?_)
  | (with_reducible refine x_ipI ?_)
  | ((with_reducible refine x_I ?xh ?_); (case xh => walk_at "cond"))
  | (with_reducible refine x_U ?_)
  | (with_reducible refine x_eqI ?_)
  | (with_reducible refine x_eqS ?_)
  | (with_reducible refine x_eqB ?_)
  | (with_reducible refine x_neI ?_)
  | (with_reducible refine x_neS ?_)
  | (with_reducible refine x_neB ?_)
  | (with_reducible refine x_blV ?_)
  | (with_reducible refine x_bl ?_)
  | (with_reducible refine x_test ?_)
  | (with_reducible refine x_B ?_)
  | (with_reducible refine x_not ?_)
  | (with_reducible refine x_and ?_)
  | (with_reducible refine x_or ?_)
  | (with_reducible refine x_andV ?_)
  | (with_reducible refine x_orV ?_)
  | (with_reducible refine x_notV ?_)
  | (with_reducible refine x_ifE ?_)
  | (with_reducible refine x_chain ?_)
  | (with_reducible refine x_nil ?_)
  | (with_reducible refine x_cons ?_)
  | (with_reducible refine x_tup ?_)
  | (with_reducible refine x_lst ?_)
  | (with_reducible refine x_cb ?_)
  | (with_reducible refine x_call ?_)
  | (with_reducible refine x_make ?_)
  | (with_reducible refine x_Fld ?_)
  | (with_reducible refine x_forL ?_)
  | (with_reducible refine x_forT ?_)
  | (with_reducible refine x_forR ?_)
  | (with_reducible refine x_forR2 ?_)
  | (with_reducible refine x_forS ?_)
  | (with_reducible refine x_forK ?_)
  | (with_reducible refine x_forI ?_)
  | (with_reducible refine x_forV ?_)
  | (with_reducible refine x_g1 ?_)
  | (with_reducible refine x_lc ?_)
  | (with_reducible refine x_dc ?_)
  | (with_reducible refine x_yes1 ?_)
  | (with_reducible refine x_iK ?_)
  | (with_reducible refine x_iV ?_)
  | (with_reducible refine x_iI ?_)
  | (with_reducible refine x_iL ?_)
  | (with_reducible refine x_iT ?_)
  | (with_reducible refine x_iS ?_)
  | (with_reducible refine x_iR ?_)
  | (with_reducible refine x_dget ?_)
  | (with_reducible refine x_din ?_)
  | (with_reducible refine x_dnin ?_)
  | (with_reducible refine x_dput ?_)
  | (with_reducible refine x_newK ?_)
  | (with_reducible refine x_listV ?_)
  | (with_reducible refine x_sfld ?_)
  | (with_reducible refine x_revL ?_)
  | (with_reducible refine x_prop ?_)
  | (with_reducible refine x_sl ?_)
  | (with_reducible refine x_forE ?_)
  | (with_reducible refine x_mt ?_)
  | (with_reducible refine x_nopart ?_)
  | (with_reducible refine x_part ?_)
  | (with_reducible refine x_parti ?_)
  | (with_reducible refine x_bm ?_)
  | (with_reducible refine x_bm0 ?_)
  | (with_reducible refine x_intI ?_)
  | (with_reducible refine x_max2 ?_)
  | (with_reducible refine x_min2 ?_)
  | (with_reducible refine x_abs ?_)
  | (with_reducible refine x_isN ?_)
  | (with_reducible refine x_notN ?_)
  | (with_reducible refine x_inS ?_)
  | (with_reducible refine x_ninS ?_)
  | (with_reducible refine x_T ?_)
  | (with_reducible refine x_F ?_)
  | (with_reducible refine x_nT ?_)
  | (with_reducible refine x_nF ?_)
  | ((with_reducible refine' x_lenL ?xh ?_); (case xh => exact SqL.of (by walk_at "hp")))
  | ((with_reducible refine' x_tyL ?xh ?_); (case xh => exact SqL.of (by walk_at "hp")))
  ))
/-! ### a list over a range, ends of an if -/
theorem lcR {D : Addr} {g : TG} {tt : TT} {te : TE} {vs : List Nat} {σ : L2.St} {H : Hp} {Qd : Hp → Prop} {m : Nat} (Pv : Nat → Hp → Prop) (h0 : Pv 0 (upd H D (.lst [])))
    (hs : ∀ i H, i < m → Pv i H → g (.int (i : Int)) (wipe σ vs) H fun σ2 H2 => wipe σ2 vs = wipe σ vs ∧ tt σ2 H2 fun b H3 =>
      if b = true then te σ2 H3 fun y H4 => ∃ acc, H4 D = some (.lst acc) ∧ acc.length < sizeLine ∧ Pv (i + 1) (upd H4 D (.lst (acc ++ [y]))) else Pv (i + 1) H3) (hd : ∀ H, Pv m H → Qd H) : LcP (Itr 0 m) g tt te vs σ D Qd H :=
  lc_by walk_range Pv h0 (fun _ _ _ _ => trivial) (fun i x H H' hi hp y => by
    obtain ⟨rfl, rfl⟩ := y
    dsimp only
    rw [Int.zero_add]
    exact hs i _ hi hp) hd
/-- both ends of an if go on alike -/
theorem if_join {α : Type} {c : TT} {t e : TS} {n : L2.St → Hp → Prop} {r : VK} {b k : L2.St → Hp → Prop} {σ : L2.St} {H : Hp} (S : α → Prop) (f : α → L2.St) (h : ∀ n' : L2.St → Hp → Prop, (∀ a, S a → n' (f a) H) → tIfS c t e ⟨n', r, b, k⟩ σ H) (hn : ∀ a, S a → n (f a) H) : tIfS c t e ⟨n, r, b, k⟩ σ H := h n hn
theorem if_joinH {α : Type} {c : TT} {t e : TS} {n : L2.St → Hp → Prop} {r : VK} {b k : L2.St → Hp → Prop} {σ : L2.St} {H : Hp} (S : α → Hp → Prop) (f : α → L2.St) (h : ∀ n' : L2.St → Hp → Prop, (∀ a H', S a H' → n' (f a) H') → tIfS c t e ⟨n', r, b, k⟩ σ H) (hn : ∀ a H', S a H' → n (f a) H') : tIfS c t e ⟨n, r, b, k⟩ σ H := h n hn
/-! ### the pool of draws: nothing is said of what is drawn but its bounds -/
def PoolOk (ns : List Int) : Prop := ∃ x r, ns = x :: r ∧ 0 ≤ x ∧ x < 2147483647 ∧ r.length ≤ 63
abbrev intsV (ns : List Int) : List V := ns.map V.int
def PoolAt (H : Hp) (p : Addr) : Prop := ∃ ns, H p = some (.lst (intsV ns)) ∧ PoolOk ns
def spPool (K : PySem.W.Frag) : Sp := fun vs H Q _ => ∃ (a : Addr) (ns : List Int), vs = [.ref a] ∧ SqL K H a (intsV ns) ∧ ns.length ≤ 63 ∧
  ∀ H' p, L2.Same H H' → H p = none → PoolAt H' p → Q (.ref p) H'
def spDraw : Sp := fun vs H Q _ => ∃ (p : Addr) (m : Int), vs = [.ref p, .int m] ∧ PoolAt H p ∧ 0 < m ∧ m < 2 ^ 200 ∧
  ∀ H' r, But p H H' → PoolAt H' p → 0 ≤ r → r < m → Q (.int r) H'
theorem intsV_at {ns : List Int} {j : Nat} {z : Int} (h : ns[j]? = some z) : atI (intsV ns) (j : Int) = some (.int z) := atI_nat (by rw [List.getElem?_map, h]; rfl)
section
variable {P : Program} {w : World} {K : PySem.W.Frag} {mg : Str → Option Value} {base : Heap}
theorem ok_draw {f : Addr} {fd : FuncData} (F : Fun K "_law_draw" "_law_draw" s_draw f fd) (Z_len : mg "len" = none) (Z_int : mg "int" = none) : FnOk P w K mg base CX0 1 f fd ["_law_pool_here", "_law_many"] spDraw := by
  refine F.ok sc_draw (fun vs H Q E h => ?_) (fun cdv A outer s H vs Q E hr h => ?_)
  · obtain ⟨_, _, rfl, _⟩ := h
    rfl
  · obtain ⟨p, m, rfl, ⟨ns, hp, x, r, rfl, hx, hx2, hl⟩, hm, hm2, k⟩ := h
    refine ⟨_, (pss_cons (ps_if (pt_cmpR op_gt (pe_callB call_lenA (by rfl) Z_len (by decide +kernel) (pa_cons (pv 0) pa_nil)) pe_int (nomark _))
      (pss_cons (ps_set (i := 2) sc_draw.nd rfl (Or.inl rfl) (pe_op op_mod (pe_callTy call_intA (by rfl) Z_int (by decide +kernel) (pa_cons (pe_ix ix_list (pv 0) pe_int (fun _ _ => rfl)) pa_nil)) (pv 1)))
      (pss_cons (ps_asg (pe_op op_fdivA (pe_ix ix_list (pv 0) pe_int (fun _ _ => rfl)) (pv 1)) (pg_sub (pv 0) pe_int set_list))
      (pss_cons (ps_if (pt_cmpR op_le (pe_ix ix_list (pv 0) pe_int (fun _ _ => rfl)) pe_int (nomark _))
      (pss_one (ps_expr (pe_bm PySem.F.plainAttrs_list PySem.F.slot_list_pop PySem.F.type_list_pop mt_popAt (pv 0) (pa_cons pe_int pa_nil))))
      pss_nil)
      (pss_one (ps_ret (pv 2))))))
      pss_nil)
      (pss_cons (ps_asg (pe_op op_mod (pe_callTy call_intA (by rfl) Z_int (by decide +kernel) (pa_cons (pe_op op_add (pe_op op_mulA (pe_ix ix_list (pv 0) pe_int (fun _ _ => rfl)) pe_int) pe_int) pa_nil)) pe_int) (pg_sub (pv 0) pe_int set_list))
      (pss_cons (ps_set (i := 3) sc_draw.nd rfl (Or.inl rfl) (pe_op op_mod (pe_callTy call_intA (by rfl) Z_int (by decide +kernel) (pa_cons (pe_op op_mulA (pe_ix ix_list (pv 0) pe_int (fun _ _ => rfl)) (pe_op op_add (pe_op op_fdivA (pe_ix ix_list (pv 0) pe_int (fun _ _ => rfl)) pe_int) pe_int)) pa_nil)) pe_int))
      (pss_one (ps_ret (pe_op op_mod (pe_callTy call_intA (by rfl) Z_int (by decide +kernel) (pa_cons (pe_op op_fdivA (pv 3) pe_int) pa_nil)) (pv 1))))))), ?_⟩
    walk_at "go"
    refine x_dec (fun hc => ?_) (fun hc => ?_)
    · cases r with
      | nil => simp at hc
      | cons y r =>
        walk_at "go"
        refine x_ixl 1 (SqL.of hp) rfl rfl ?_
        walk_at "go"
        refine x_ixl 1 (SqL.of hp) rfl rfl ?_
        walk_at "go"
        refine x_setl (j := 1) hp rfl (by simp) ?_
        walk_at "go"
        refine x_ixl 1 (SqL.of upd_same) rfl rfl ?_
        walk_at "go"
        have hmod := Int.emod_nonneg y (show m ≠ 0 by omega)
        have hmod2 := Int.emod_lt_of_pos y hm
        refine x_dec (fun hd => ?_) (fun hd => ?_)
        · walk_at "go"
          refine x_popAt (j := 1) (y := .int (y / m)) upd_same rfl rfl (by simp at hl ⊢; omega) ?_
          walk_at "go"
          exact k _ _ (But.refl.at_.at_) ⟨x :: r, upd_same, x, r, rfl, hx, hx2, by simp at hl; omega⟩ hmod hmod2
        · walk_at "go"
          exact k _ _ (But.refl.at_) ⟨x :: (y / m) :: r, upd_same, x, _, rfl, hx, hx2, by simpa using hl⟩ hmod hmod2
    · walk_at "go"
      refine x_ixl 0 (SqL.of hp) rfl rfl ?_
      walk_at "go"
      refine x_setl (j := 0) hp rfl (by simp) ?_
      walk_at "go"
      generalize hz : (x * 48271 + 30103) % 2147483647 = z
      have z0 : 0 ≤ z := by rw [← hz]; exact Int.emod_nonneg _ (by decide)
      have z1 : z < 2147483647 := by rw [← hz]; exact Int.emod_lt_of_pos _ (by decide)
      have ez : (intsV (x :: r)).set 0 (.int z) = intsV (z :: r) := rfl
      rw [ez]
      refine x_ixl 0 (SqL.of upd_same) rfl rfl ?_
      walk_at "go"
      refine x_ixl 0 (SqL.of upd_same) rfl rfl ?_
      walk_at "go"
      exact k _ _ (But.refl.at_) ⟨z :: r, upd_same, z, r, rfl, z0, z1, hl⟩ (Int.emod_nonneg _ (by omega)) (Int.emod_lt_of_pos _ hm)
theorem ok_pool {f : Addr} {fd : FuncData} (F : Fun K "_law_pool" "_law_pool" s_pool f fd) (Z_len : mg "len" = none) (Z_int : mg "int" = none) (Z_min : mg "min" = none) (Z_range : mg "range" = none) : FnOk P w K mg base CX0 1 f fd ["_law_script"] (spPool K) := by
  refine F.ok sc_pool (fun vs H Q E h => ?_) (fun cdv A outer s H vs Q E hr h => ?_)
  · obtain ⟨_, _, rfl, _⟩ := h
    rfl
  · obtain ⟨a, ns, rfl, hS, hlen, k⟩ := h
    refine ⟨_, (pss_cons (ps_set (i := 1) sc_pool.nd rfl (Or.inl rfl) (pe_lst (pa_cons (pe_op op_add (pe_op op_mod (pe_callB call_lenA (by rfl) Z_len (by decide +kernel) (pa_cons (pv 0) pa_nil)) pe_int) pe_int) pa_nil)))
      (pss_cons (ps_for PassesOwn.never rfl (pi_range1 rfl Z_range (pa_cons (pe_callB (call_min2A rfl) (by rfl) Z_min (by decide +kernel) (pa_cons pe_int (pa_cons (pe_callB call_lenA (by rfl) Z_len (by decide +kernel) (pa_cons (pv 0) pa_nil)) pa_nil))) pa_nil)) (pg_name (i := 2) sc_pool.nd rfl (Or.inl rfl))
      (pss_cons (ps_asg (pe_op op_mod (pe_callTy call_intA (by rfl) Z_int (by decide +kernel) (pa_cons (pe_op op_add (pe_op op_add (pe_op op_mulA (pe_ix ix_list (pv 1) pe_int (fun _ _ => rfl)) pe_int) (pe_op op_mod (pe_callTy call_intA (by rfl) Z_int (by decide +kernel) (pa_cons (pe_ix ix_list (pv 0) (pv 2) (fun _ _ => rfl)) pa_nil)) pe_int)) (pe_op op_mulA pe_int (pv 2))) pa_nil)) pe_int) (pg_sub (pv 1) pe_int set_list))
      (pss_one (ps_if (pt_cmpR op_ge (pe_ix ix_list (pv 0) (pv 2) (fun _ _ => rfl)) (pe_op op_powW pe_int pe_int) (nomark _))
      (pss_cons (ps_set (i := 3) sc_pool.nd rfl (Or.inl rfl) (pe_op op_mod (pe_callTy call_intA (by rfl) Z_int (by decide +kernel) (pa_cons (pe_ix ix_list (pv 0) (pv 2) (fun _ _ => rfl)) pa_nil)) (pe_op op_powW (pe_op op_powW pe_int pe_int) pe_int)))
      (pss_one (ps_if (pt_cmpR op_gt (pv 3) pe_int (nomark _))
      (pss_one (ps_expr (pe_bm PySem.F.plainAttrs_list PySem.F.slot_list_append PySem.F.type_list_append mt_append (pv 1) (pa_cons (pv 3) pa_nil))))
      pss_nil)))
      pss_nil))))
      (pss_one (ps_ret (pv 1))))), ?_⟩
    walk_at "go"
    refine x_lenL hS ?_
    walk_at "go"
    refine ⟨sz_le (by simp), fun p hp => ?_⟩
    walk_at "go"
    have s1 : L2.Same H (upd H p (.lst [.int (((intsV ns).length : Int) % 1009 + 17)])) := same_new hp
    refine x_lenL (s1.seq hS) ?_
    walk_at "go"
    have el : (intsV ns).length = ns.length := List.length_map ..
    refine lpR (fun i σ H' => ∃ v2 v3 ps, σ = [some (.ref a), some (.ref p), v2, v3] ∧ L2.Same H H' ∧ H' p = some (.lst (intsV ps)) ∧ PoolOk ps ∧ ps.length ≤ i + 1) ?_ ?_ ?_ ?_
    · rw [el]
      split <;> omega
    · exact ⟨none, none, [_], rfl, s1, upd_same, ⟨_, [], rfl, by omega, by omega, by simp⟩, by simp⟩
    · rintro i σ H' hi ⟨v2, v3, ps, rfl, s2, hps, ⟨x, r, rfl, hx, hx2, hl⟩, hlp⟩
      have hi2 : i < ns.length := by
        rw [el] at hi
        split at hi <;> omega
      have hi3 : i < 63 := by
        rw [el] at hi
        split at hi <;> omega
      obtain ⟨z, hz⟩ : ∃ z, ns[i]? = some z := ⟨_, List.getElem?_eq_getElem hi2⟩
      have hz2 : (intsV ns)[i]? = some (.int z) := by rw [List.getElem?_map, hz]; rfl
      walk_at "go"
      refine x_ixl 0 (SqL.of hps) rfl rfl ?_
      walk_at "go"
      refine x_ixl i (s2.seq hS) rfl hz2 ?_
      walk_at "go"
      refine x_setl (j := 0) hps rfl (by simp) ?_
      walk_at "go"
      generalize hq : (x * 69621 + z % 1000003 + 7 * (i : Int)) % 2147483647 = q
      have q0 : 0 ≤ q := by rw [← hq]; exact Int.emod_nonneg _ (by decide)
      have q1 : q < 2147483647 := by rw [← hq]; exact Int.emod_lt_of_pos _ (by decide)
      have e1 : (intsV (x :: r)).set 0 (.int q) = intsV (q :: r) := rfl
      rw [e1]
      have s3 : L2.Same H (upd H' p (.lst (intsV (q :: r)))) := same_upd s2 hp
      refine x_ixl i (s3.seq hS) rfl hz2 ?_
      walk_at "go"
      refine x_dec (fun hc => ?_) (fun hc => ?_)
      · walk_at "go"
        refine x_ixl i (s3.seq hS) rfl hz2 ?_
        walk_at "go"
        refine x_dec (fun hd => ?_) (fun hd => ?_)
        · walk_at "go"
          refine x_app upd_same (sz_lt (by simp at hlp ⊢; omega)) ?_
          walk_at "go"
          generalize z % (10 ^ Int.toNat 60) ^ Int.toNat 10 = y at hd ⊢
          exact ⟨_, _, q :: (r ++ [y]), rfl, same_upd s3 hp, by rw [upd_same]; simp [intsV], ⟨q, _, rfl, q0, q1, by simp at hlp ⊢; omega⟩, by simp at hlp ⊢; omega⟩
        · walk_at "go"
          exact ⟨_, _, q :: r, rfl, s3, upd_same, ⟨q, r, rfl, q0, q1, hl⟩, by simp at hlp ⊢; omega⟩
      · walk_at "go"
        exact ⟨_, _, q :: r, rfl, s3, upd_same, ⟨q, r, rfl, q0, q1, hl⟩, by simp at hlp ⊢; omega⟩
    · rintro σ H' ⟨v2, v3, ps, rfl, s2, hps, hok, hlp⟩
      walk_at "go"
      exact k _ _ s2 hp ⟨ps, hps, hok⟩
end
theorem PoolAt.upd {H : Hp} {p q : Addr} {o : HO} (h : PoolAt H p) (n : p ≠ q) : PoolAt (upd H q o) p := by
  obtain ⟨ns, e, ok⟩ := h
  exact ⟨ns, by rw [upd_ne n]; exact e, ok⟩
theorem PoolAt.new {H : Hp} {p q : Addr} {o : HO} (h : PoolAt H p) (n : H q = none) : PoolAt (L2.upd H q o) p := by
  obtain ⟨ns, e, ok⟩ := h
  exact ⟨ns, by rw [upd_ne (ne_of_none e n)]; exact e, ok⟩
theorem PoolAt.ne {H : Hp} {p q : Addr} (h : PoolAt H p) (n : H q = none) : q ≠ p := by
  obtain ⟨ns, e, ok⟩ := h
  exact fun z => by rw [z, e] at n; cases n
theorem PoolAt.same {H H' : Hp} {p : Addr} (h : PoolAt H p) (s : L2.Same H H') : PoolAt H' p := by
  obtain ⟨ns, e, ok⟩ := h
  exact ⟨ns, s _ _ e, ok⟩
theorem PoolAt.ned {H : Hp} {p d : Addr} {kvs : List (Key × V)} (h : PoolAt H p) (n : H d = some (.dK kvs)) : d ≠ p := by
  obtain ⟨ns, e, ok⟩ := h
  exact fun z => by rw [z, e] at n; cases n
def Side (e : Int) (l : List (Str × Int)) : Prop := (∀ p ∈ l, e ≤ p.2) ∨ (∀ p ∈ l, p.2 ≤ e)
/-! ### names -/
def lowC (d : Nat) : Prop := 97 ≤ d ∧ d ≤ 122
def sgnC (d : Nat) : Prop := (97 ≤ d ∧ d ≤ 122) ∨ (48 ≤ d ∧ d ≤ 57)
instance (d : Nat) : Decidable (lowC d) := inferInstanceAs (Decidable (_ ∧ _))
instance (d : Nat) : Decidable (sgnC d) := inferInstanceAs (Decidable (_ ∨ _))
/-- a name's signs -/
def NameL (l : List Nat) : Prop := ∃ d r, l = d :: r ∧ lowC d ∧ r.length ≤ 7 ∧ ∀ e ∈ r, sgnC e
def NameS (z : Str) : Prop := NameL z.cps.toList
theorem str_len (z : Str) : z.length = z.cps.toList.length := by show z.cps.size = _; simp
theorem tl_app (x y : Str) : (x ++ y).cps.toList = x.cps.toList ++ y.cps.toList := TL.tl_append x y
theorem NameS.len {z : Str} (h : NameS z) : z.length ≤ 8 := by
  obtain ⟨d, r, e, _, hl, _⟩ := h
  rw [str_len, e]
  simp
  omega
theorem letters_at : ∀ j < 26, ("abcdefghijklmnopqrstuvwxyz" : Str).cps.toList[j]? = some (97 + j) := by decide +kernel
theorem signs_at : ∀ j < 36, ∃ d, (("abcdefghijklmnopqrstuvwxyz" : Str) ++ ("0123456789" : Str)).cps.toList[j]? = some d ∧ sgnC d := by
  have h : ∀ j < 36, ((("abcdefghijklmnopqrstuvwxyz" : Str) ++ ("0123456789" : Str)).cps.toList[j]?).any (fun d => decide (sgnC d)) = true := by decide +kernel
  intro j hj
  have h1 := h j hj
  cases e : (("abcdefghijklmnopqrstuvwxyz" : Str) ++ ("0123456789" : Str)).cps.toList[j]? with
  | none => rw [e] at h1; cases h1
  | some d => rw [e] at h1; exact ⟨d, rfl, of_decide_eq_true h1⟩
/-! ### several names, all different -/
def nmS (t : Nat) : Str := ("n" : Str) ++ Str.ofString (toString ((t : Nat) : Int))
theorem nmS_tl (t : Nat) : (nmS t).cps.toList = 110 :: TL.numL t := by
  unfold nmS
  rw [tl_app]
  have e : ("n" : Str).cps.toList = [110] := by decide +kernel
  rw [e]
  show 110 :: _ = _
  exact congrArg (List.cons 110) (TL.tl_num t)
theorem nmS_inj {a b : Nat} (h : nmS a = nmS b) : a = b := by
  have e := congrArg (fun z : Str => z.cps.toList) h
  simp only [nmS_tl, List.cons.injEq, true_and] at e
  exact TL.numL_inj e
theorem nmS_name {t : Nat} (h : t < 1000000) : NameS (nmS t) := by
  refine ⟨110, TL.numL t, nmS_tl t, ⟨by omega, by omega⟩, ?_, fun e he => ?_⟩
  · exact Nat.le_trans (TL.numL_len (k := 6) (by decide) (by simpa using h)) (by decide)
  · have := TL.numL_digits t e he
    exact .inr ⟨this.1, this.2⟩
abbrev strsV (ws : List Str) : List V := ws.map V.str
/-! ### drawn words -/
def spWord : Sp := fun vs H Q _ => ∃ (p : Addr) (m : Int), vs = [.ref p, .int m] ∧ PoolAt H p ∧ 0 < m ∧ m ≤ 8 ∧
  ∀ H' z, But p H H' → PoolAt H' p → NameS z → Q (.str z) H'
section
variable {P : Program} {w : World} {K : PySem.W.Frag} {mg : Str → Option Value} {base : Heap}
theorem ok_word {f : Addr} {fd : FuncData} (F : Fun K "_law_word" "_law_word" s_word f fd) (Z_range : mg "range" = none) (C_draw : Cal P w K mg base 1 "_law_draw" ["_law_pool_here", "_law_many"] spDraw) : FnOk P w K mg base CX0 2 f fd ["_law_pool_here", "_law_longest"] spWord := by
  refine F.ok sc_word (fun vs H Q E h => ?_) (fun cdv A outer s H vs Q E hr h => ?_)
  · obtain ⟨_, _, rfl, _⟩ := h
    rfl
  · obtain ⟨p, m, rfl, hp, hm, hm2, k⟩ := h
    refine ⟨_, (pss_cons (ps_set (i := 2) sc_word.nd rfl (Or.inl rfl) pe_str)
      (pss_cons (ps_set (i := 3) sc_word.nd rfl (Or.inl rfl) (pe_op op_addSA (pv 2) pe_str))
      (pss_cons (ps_set (i := 4) sc_word.nd rfl (Or.inl rfl) (pe_ix ix_str (pv 2) (pe_cal C_draw (hr.mono (by decide)) (by rfl) (pa_cons (pv 0) (pa_cons pe_int pa_nil))) (fun _ _ => rfl)))
      (pss_cons (ps_for PassesOwn.never rfl (pi_range1 rfl Z_range (pa_cons (pe_cal C_draw (hr.mono (by decide)) (by rfl) (pa_cons (pv 0) (pa_cons (pv 1) pa_nil))) pa_nil)) (pg_name (i := 5) sc_word.nd rfl (Or.inl rfl))
      (pss_one (ps_set (i := 4) sc_word.nd rfl (Or.inl rfl) (pe_op op_addSA (pv 4) (pe_ix ix_str (pv 3) (pe_cal C_draw (hr.mono (by decide)) (by rfl) (pa_cons (pv 0) (pa_cons pe_int pa_nil))) (fun _ _ => rfl))))))
      (pss_one (ps_ret (pv 4))))))), ?_⟩
    walk_at "go"
    refine x_addS (by decide +kernel) ?_
    walk_at "go"
    refine ⟨p, 26, rfl, hp, by decide, by decide, fun H1 j b1 p1 j0 j1 => ?_⟩
    refine x_ixs j.toNat (by decide +kernel) (by omega) (letters_at _ (by omega)) ?_
    walk_at "go"
    refine ⟨p, m, rfl, p1, hm, by omega, fun H2 n b2 p2 n0 n1 => ?_⟩
    refine lpR (fun i σ H' => ∃ z v, σ = [some (.ref p), some (.int m), some (.str ("abcdefghijklmnopqrstuvwxyz" : Str)), some (.str (("abcdefghijklmnopqrstuvwxyz" : Str) ++ ("0123456789" : Str))), some (.str z), v] ∧ But p H H' ∧ PoolAt H' p ∧
      ∃ d r, z.cps.toList = d :: r ∧ lowC d ∧ r.length ≤ i ∧ ∀ e ∈ r, sgnC e) ?_ ?_ ?_ ?_
    · omega
    · exact ⟨_, none, rfl, b1.trans b2, p2, _, [], rfl, ⟨by omega, by omega⟩, by simp, by simp⟩
    · rintro i σ H' hi ⟨z, v, rfl, b3, p3, d, r, ez, hd, hl, hr2⟩
      walk_at "go"
      refine ⟨p, 36, rfl, p3, by decide, by decide, fun H4 j b4 p4 j2 j3 => ?_⟩
      obtain ⟨e, he, hs⟩ := signs_at j.toNat (by omega)
      refine x_ixs j.toNat (by decide +kernel) (by omega) he ?_
      refine x_addS (sz_le ?_) ?_
      · rw [str_len, ez]
        show _ + 1 ≤ _
        simp
        omega
      walk_at "go"
      refine ⟨_, _, rfl, b3.trans b4, p4, d, r ++ [e], ?_, hd, ?_, ?_⟩
      · rw [tl_app, ez]
        rfl
      · simp
        omega
      · intro x hx
        rcases List.mem_append.mp hx with hx | hx
        · exact hr2 x hx
        · rw [List.mem_singleton.mp hx]
          exact hs
    · rintro σ H' ⟨z, v, rfl, b3, p3, d, r, ez, hd, hl, hr2⟩
      walk_at "go"
      exact k _ _ b3 p3 ⟨d, r, ez, hd, by omega, hr2⟩
end
def spWords : Sp := fun vs H Q _ => ∃ (p : Addr) (m : Int), vs = [.ref p, .int m] ∧ PoolAt H p ∧ 0 ≤ m ∧ m ≤ 1000 ∧
  ∀ H' q ws, But p H H' → PoolAt H' p → H q = none → H' q = some (.lst (strsV ws)) → ws.length = m.toNat → (∀ z ∈ ws, NameS z) → ws.Nodup → Q (.ref q) H'
theorem all_nm {ws : List Str} {n : Nat} (h : ∀ t < n, nmS t ∈ ws) : n ≤ ws.length := by
  have nd : ((List.range n).map nmS).Nodup := by
    refine List.pairwise_map.mpr (List.Pairwise.imp (fun {a b} hab e => ?_) (List.nodup_range (n := n)))
    exact hab (nmS_inj e)
  have sub : ((List.range n).map nmS) ⊆ ws := fun x hx => by
    obtain ⟨t, ht, rfl⟩ := List.mem_map.mp hx
    exact h t (List.mem_range.mp ht)
  have := List.Nodup.length_le_of_subset nd sub
  simpa using this
section
variable {P : Program} {w : World} {K : PySem.W.Frag} {mg : Str → Option Value} {base : Heap}
theorem ok_words {f : Addr} {fd : FuncData} (F : Fun K "_law_words" "_law_words" s_words f fd) (Z_range : mg "range" = none) (Z_str : mg "str" = none) (C_draw : Cal P w K mg base 1 "_law_draw" ["_law_pool_here", "_law_many"] spDraw)
    (C_word : Cal P w K mg base 2 "_law_word" ["_law_pool_here", "_law_longest"] spWord) : FnOk P w K mg base CX0 3 f fd ["_law_pool_here", "_law_many"] spWords := by
  refine F.ok sc_words (fun vs H Q E h => ?_) (fun cdv A outer s H vs Q E hr h => ?_)
  · obtain ⟨_, _, rfl, _⟩ := h
    rfl
  · obtain ⟨p, m, rfl, hp, hm, hm2, k⟩ := h
    refine ⟨_, (pss_cons (ps_set (i := 2) sc_words.nd rfl (Or.inl rfl) (pe_ix ix_list (pe_lst (pa_cons pe_int (pa_cons pe_int (pa_cons pe_int (pa_cons pe_int pa_nil))))) (pe_cal C_draw (hr.mono (by decide)) (by rfl) (pa_cons (pv 0) (pa_cons pe_int pa_nil))) (fun _ _ => rfl)))
      (pss_cons (ps_set (i := 3) sc_words.nd rfl (Or.inl rfl) (pe_lst pa_nil))
      (pss_cons (ps_for PassesOwn.never rfl (pi_range1 rfl Z_range (pa_cons (pv 1) pa_nil)) (pg_name (i := 4) sc_words.nd rfl (Or.inl rfl))
      (pss_cons (ps_set (i := 5) sc_words.nd rfl (Or.inl rfl) (pe_cal C_word (hr.mono (by decide)) (by rfl) (pa_cons (pv 0) (pa_cons (pv 2) pa_nil))))
      (pss_cons (ps_for PassesOwn.never rfl (pi_range1 rfl Z_range (pa_cons (pe_op op_add (pv 1) pe_int) pa_nil)) (pg_name (i := 6) sc_words.nd rfl (Or.inl rfl))
      (pss_one (ps_if (pt_cmpR op_in_seq (pv 5) (pv 3) rfl)
      (pss_one (ps_set (i := 5) sc_words.nd rfl (Or.inl rfl) (pe_op op_addSA pe_str (pe_callTy call_strIA (by rfl) Z_str (by decide +kernel) (pa_cons (pv 6) pa_nil)))))
      pss_nil)))
      (pss_one (ps_expr (pe_bm PySem.F.plainAttrs_list PySem.F.slot_list_append PySem.F.type_list_append mt_append (pv 3) (pa_cons (pv 5) pa_nil)))))))
      (pss_one (ps_ret (pv 3)))))), ?_⟩
    walk_at "go"
    refine ⟨sz_le (by simp), fun l hl => ?_⟩
    have hp1 : PoolAt (upd H l (.lst [.int 1, .int 2, .int 3, .int 8])) p := by
      obtain ⟨ns, e, ok⟩ := hp
      exact ⟨ns, by rw [upd_ne (ne_of_none e hl)]; exact e, ok⟩
    walk_at "go"
    refine ⟨p, 4, rfl, hp1, by decide, by decide, fun H1 j b1 p1 j0 j1 => ?_⟩
    have npl : l ≠ p := by
      obtain ⟨ns, e, ok⟩ := hp
      exact fun z => by rw [z, e] at hl; cases hl
    have hl1 : H1 l = some (.lst [.int 1, .int 2, .int 3, .int 8]) := b1 l _ upd_same npl
    have bb : But p H H1 := fun q o e n => b1 q o (by rw [upd_ne (ne_of_none e hl)]; exact e) n
    obtain ⟨g, hg, hg1, hg2⟩ : ∃ g : Int, [V.int 1, V.int 2, V.int 3, V.int 8][j.toNat]? = some (.int g) ∧ 0 < g ∧ g ≤ 8 := by
      have h4 : j = 0 ∨ j = 1 ∨ j = 2 ∨ j = 3 := by omega
      rcases h4 with rfl | rfl | rfl | rfl
      · exact ⟨1, rfl, by omega, by omega⟩
      · exact ⟨2, rfl, by omega, by omega⟩
      · exact ⟨3, rfl, by omega, by omega⟩
      · exact ⟨8, rfl, by omega, by omega⟩
    refine x_ixl j.toNat (SqL.of hl1) (by omega) hg ?_
    walk_at "go"
    refine ⟨sz_le (by simp), fun q hq => ?_⟩
    walk_at "go"
    have npq : q ≠ p := by
      obtain ⟨ns, e, ok⟩ := p1
      exact fun z => by rw [z, e] at hq; cases hq
    have hq0 : H q = none := by
      cases e : H q with
      | none => rfl
      | some o => rw [bb q o e npq] at hq; cases hq
    refine lpR (fun i σ H' => ∃ ws v4 v5 v6, σ = [some (.ref p), some (.int m), some (.int g), some (.ref q), v4, v5, v6] ∧ But p H H' ∧ PoolAt H' p ∧ H' q = some (.lst (strsV ws)) ∧ ws.length = i ∧ (∀ z ∈ ws, NameS z) ∧ ws.Nodup) ?_ ?_ ?_ ?_
    · omega
    · refine ⟨[], none, none, none, rfl, bb.new hq, ?_, upd_same, rfl, by simp, List.nodup_nil⟩
      obtain ⟨ns, e, ok⟩ := p1
      exact ⟨ns, by rw [upd_ne npq.symm]; exact e, ok⟩
    · rintro i σ H' hi ⟨ws, v4, v5, v6, rfl, b2, p2, hw, hlen, hnm, hnd⟩
      walk_at "go"
      refine ⟨p, g, rfl, p2, hg1, hg2, fun H3 z b3 p3 hz => ?_⟩
      have hw3 : H3 q = some (.lst (strsV ws)) := b3 q _ hw npq
      walk_at "go"
      refine lpR (fun j σ H' => ∃ z v6, σ = [some (.ref p), some (.int m), some (.int g), some (.ref q), some (.int (i : Int)), some (.str z), v6] ∧ H' = H3 ∧ NameS z ∧ (z ∉ ws ∨ ∀ t < j, nmS t ∈ ws)) ?_ ?_ ?_ ?_
      · omega
      · exact ⟨z, _, rfl, rfl, hz, .inr fun t ht => absurd ht (by omega)⟩
      · rintro j σ H' hj ⟨z, v6, rfl, rfl, hz, hor⟩
        walk_at "go"
        refine x_inL (ws := ws) (SqL.of hw3) ?_
        walk_at "go"
        refine x_dec (fun hin => ?_) (fun hin => ?_)
        · have hall : ∀ t < j, nmS t ∈ ws := hor.resolve_left fun e => e hin
          walk_at "go"
          refine x_strI (Nat.lt_of_le_of_lt (Nat.log2_le_self _) (by omega)) ?_
          refine x_addS (i := ("n" : Str)) (j := Str.ofString (toString ((j : Nat) : Int))) (sz_le ?_) ?_
          · have := (nmS_name (t := j) (by omega)).len
            unfold nmS at this
            rw [str_len, tl_app, List.length_append, ← str_len, ← str_len] at this
            omega
          walk_at "go"
          refine ⟨nmS j, _, rfl, rfl, nmS_name (by omega), ?_⟩
          by_cases e : nmS j ∈ ws
          · refine .inr fun t ht => ?_
            by_cases et : t = j
            · rw [et]; exact e
            · exact hall t (by omega)
          · exact .inl e
        · walk_at "go"
          exact ⟨z, _, rfl, rfl, hz, .inl hin⟩
      · rintro σ H' ⟨z, v6, rfl, rfl, hz, hor⟩
        have hnot : z ∉ ws := by
          rcases hor with h | h
          · exact h
          · have := all_nm h
            omega
        walk_at "go"
        refine x_app hw3 (sz_lt (by simp; omega)) ?_
        walk_at "go"
        refine ⟨ws ++ [z], _, _, _, rfl, fun b o e n => ?_, ?_, by rw [upd_same]; simp [strsV], by simp [hlen], ?_, ?_⟩
        · rw [upd_ne (ne_of_none e hq0)]
          exact b3 b o (b2 b o e n) n
        · obtain ⟨ns, e, ok⟩ := p3
          exact ⟨ns, by rw [upd_ne npq.symm]; exact e, ok⟩
        · intro x hx
          rcases List.mem_append.mp hx with hx | hx
          · exact hnm x hx
          · rw [List.mem_singleton.mp hx]; exact hz
        · refine List.nodup_append.mpr ⟨hnd, by simp, fun a ha b hb e => ?_⟩
          rw [List.mem_singleton.mp hb] at e
          exact hnot (e ▸ ha)
    · rintro σ H' ⟨ws, v4, v5, v6, rfl, b2, p2, hw, hlen, hnm, hnd⟩
      walk_at "go"
      exact k _ _ ws b2 p2 hq0 hw hlen hnm hnd
end
/-! ### endless beside the worths -/
/-- endless is at most, or at least, each of the worths -/
def spEndless : Sp := fun vs H Q _ => ∃ (p d : Addr) (l : List (Str × Int)), vs = [.ref p, .ref d] ∧ PoolAt H p ∧ H d = some (.dK (strK V.int l)) ∧ (l.map (·.1)).Nodup ∧ l.length ≤ 200 ∧ (∀ q ∈ l, -99 ≤ q.2 ∧ q.2 ≤ 99) ∧
  ∀ H' e, But p H H' → PoolAt H' p → -99 ≤ e → e ≤ 99 → Side e l → Q (.int e) H'
section
variable {P : Program} {w : World} {K : PySem.W.Frag} {mg : Str → Option Value} {base : Heap}
theorem ok_endless {f : Addr} {fd : FuncData} (F : Fun K "_law_endless" "_law_endless" s_endless f fd) (Z_len : mg "len" = none) (Z_max : mg "max" = none) (Z_min : mg "min" = none)
    (C_draw : Cal P w K mg base 1 "_law_draw" ["_law_pool_here", "_law_many"] spDraw) : FnOk P w K mg base CX0 2 f fd ["_law_pool_here", "_law_wanted"] spEndless := by
  refine F.ok sc_endless (fun vs H Q E h => ?_) (fun cdv A outer s H vs Q E hr h => ?_)
  · obtain ⟨_, _, _, rfl, _⟩ := h
    rfl
  · obtain ⟨p, d, l, rfl, hp, hd, hnd, hlen, hb, k⟩ := h
    have hu := hu_of hr
    refine ⟨_, (pss_cons (ps_lock (ps_setLc (i := 2) (own := [("_law_name", 5)]) (g := gName 5) (tt := tYes) (by rfl) sc_endless.nd rfl rfl (sw_true rfl rfl rfl (by decide +kernel)) (pi_keys (pv 1)) (blkOk_by (own := [("_law_name", 5)]) (N := N_endless) (sc := defScope s_endless) (by decide +kernel)) (fun _ _ _ _ _ => (pg_name (i := 5) sc_endless.nd rfl (Or.inl rfl))) (fun _ _ _ _ _ => pts_nil) (fun _ _ _ _ _ => by exact (pe_dget hu (pv 1) (pv 5) (fun _ _ => rfl)))))
      (pss_cons (ps_set (i := 3) sc_endless.nd rfl (Or.inl rfl) (pe_cal C_draw (hr.mono (by decide)) (by rfl) (pa_cons (pv 0) (pa_cons pe_int pa_nil))))
      (pss_cons (ps_set (i := 4) sc_endless.nd rfl (Or.inl rfl) (pe_cal C_draw (hr.mono (by decide)) (by rfl) (pa_cons (pv 0) (pa_cons pe_int pa_nil))))
      (pss_cons (ps_if (pt_cmpR op_eq (pe_callB call_lenA (by rfl) Z_len (by decide +kernel) (pa_cons (pv 2) pa_nil)) pe_int (nomark _))
      (pss_one (ps_ret (pe_op op_sub (pv 4) pe_int)))
      pss_nil)
      (pss_cons (ps_if (pt_cmpR op_eq (pv 3) pe_int (nomark _))
      (pss_one (ps_ret (pe_callB (call_max2A rfl) (by rfl) Z_max (by decide +kernel) (pa_cons (pe_un un_neg pe_int) (pa_cons (pe_op op_sub (pe_callB (cr_min rfl) (by rfl) Z_min (by decide +kernel) (pa_cons (pv 2) pa_nil)) (pv 4)) pa_nil)))))
      pss_nil)
      (pss_one (ps_ret (pe_callB (call_min2A rfl) (by rfl) Z_min (by decide +kernel) (pa_cons pe_int (pa_cons (pe_op op_add (pe_callB (cr_max rfl) (by rfl) Z_max (by decide +kernel) (pa_cons (pv 2) pa_nil)) (pv 4)) pa_nil)))))))))), ?_⟩
    walk_at "go"
    refine x_lock hd trivial (fun od => ?_)
    walk_at "go"
    refine runK upd_same ?_
    intro D hD
    have hDd : D ≠ d := fun z => by rw [z, upd_same] at hD; cases hD
    have hD0 : H D = none := by rw [upd_ne hDd] at hD; exact hD
    refine lcK (fun i H' => But D (upd H d (.frz od (.dK (strK V.int l)))) H' ∧ H' D = some (.lst ((l.take i).map fun q => V.int q.2))) ?_ ?_ ?_ ?_
    · exact ⟨But.refl.at_, upd_same⟩
    · exact fun i H' _ hv => hv.1 d _ upd_same hDd.symm
    · rintro i k0 v0 H' hi ⟨hb1, hD1⟩
      obtain ⟨z, x, rfl, rfl, hlx⟩ := strK_at hi
      walk_at "go"
      refine ⟨rfl, ?_⟩
      walk_at "go"
      refine x_getS (kvs := strK V.int l) (.inr ⟨od, hb1 d _ upd_same hDd.symm⟩) (strK_val hnd hlx) ?_
      refine ⟨_, hD1, sz_lt ?_, hb1.at_, ?_⟩
      · simp; omega
      · rw [upd_same, take_succ_get hlx]
        simp
    · rintro H' ⟨hb1, hD1⟩
      refine ⟨hb1 d _ upd_same hDd.symm, ?_⟩
      have eL : (strK V.int l).length = l.length := List.length_map ..
      rw [eL, List.take_length] at hD1
      have hD2 : (upd H' d (.dK (strK V.int l))) D = some (.lst (l.map fun q => V.int q.2)) := by rw [upd_ne hDd]; exact hD1
      have b0 : L2.Same H (upd H' d (.dK (strK V.int l))) := fun b o e => by
        by_cases hbd : b = d
        · subst hbd
          rw [hd] at e
          rw [upd_same, e]
        · rw [upd_ne hbd]
          exact hb1 b o (by rw [upd_ne hbd]; exact e) (ne_of_none e hD0)
      generalize hH2 : upd H' d (.dK (strK V.int l)) = H2 at hD2 b0 ⊢
      have p2 : PoolAt H2 p := hp.same b0
      have npD : D ≠ p := fun z => by obtain ⟨ns, e, ok⟩ := hp; rw [z, e] at hD0; cases hD0
      walk_at "go"
      refine ⟨p, 2, rfl, p2, by decide, by decide, fun H3 j b3 p3 j0 j1 => ?_⟩
      walk_at "go"
      refine ⟨p, 3, rfl, p3, by decide, by decide, fun H4 gp b4 p4 g0 g1 => ?_⟩
      have hD4 : H4 D = some (.lst (l.map fun q => V.int q.2)) := b4 D _ (b3 D _ hD2 npD) npD
      have bb : But p H H4 := (But.of_same b0).trans (b3.trans b4)
      have eV : (l.map fun q => V.int q.2) = (l.map (·.2)).map V.int := (List.map_map ..).symm
      walk_at "go"
      refine x_dec (fun hc => ?_) (fun hc => ?_)
      · have hl : l = [] := by
          cases l with
          | nil => rfl
          | cons a r => simp at hc; omega
        walk_at "go"
        exact k _ _ bb p4 (by omega) (by omega) (.inl (by rw [hl]; simp))
      · have hpos : 0 < (l.map (·.2)).length := by
          rw [List.length_map]
          cases l with
          | nil => simp at hc
          | cons a r => simp
        walk_at "go"
        refine x_dec (fun hs => ?_) (fun hs => ?_)
        · walk_at "go"
          refine ⟨D, l.map (·.2), rfl, by rw [← eV]; exact SqL.of hD4, hpos, fun mm hm hle => ?_⟩
          obtain ⟨q, hq, hqm⟩ := List.mem_map.mp hm
          have hbq := hb q hq
          walk_at "go"
          refine k _ _ bb p4 ?_ ?_ (.inl fun y hy => ?_)
          · split <;> omega
          · split <;> omega
          · have h1 := hle y.2 (List.mem_map.mpr ⟨y, hy, rfl⟩)
            have h2 := hb y hy
            split <;> omega
        · walk_at "go"
          refine ⟨D, l.map (·.2), rfl, by rw [← eV]; exact SqL.of hD4, hpos, fun mm hm hle => ?_⟩
          obtain ⟨q, hq, hqm⟩ := List.mem_map.mp hm
          have hbq := hb q hq
          walk_at "go"
          refine k _ _ bb p4 ?_ ?_ (.inr fun y hy => ?_)
          · split <;> omega
          · split <;> omega
          · have h1 := hle y.2 (List.mem_map.mpr ⟨y, hy, rfl⟩)
            have h2 := hb y hy
            split <;> omega
end
/-! ### integers and names -/
def isIntK : Kn → Bool
  | .int => true
  | _ => false
def nameL : List Nat → Bool
  | [] => false
  | d :: r => decide (r.length ≤ 7) && (decide (lowC d) && r.all fun e => decide (sgnC e))
def nameV : V → Bool
  | .str z => nameL z.cps.toList
  | _ => false
theorem nameL_iff {l : List Nat} : nameL l = true ↔ NameL l := by
  cases l with
  | nil =>
    refine ⟨fun h => (by cases h), fun h => ?_⟩
    obtain ⟨d, r, e, _⟩ := h
    cases e
  | cons d r =>
    show (decide (r.length ≤ 7) && (decide (lowC d) && r.all fun e => decide (sgnC e))) = true ↔ _
    rw [Bool.and_eq_true, Bool.and_eq_true, decide_eq_true_iff, decide_eq_true_iff, List.all_eq_true]
    refine ⟨fun ⟨h1, h2, h3⟩ => ⟨d, r, rfl, h2, h1, fun e he => of_decide_eq_true (h3 e he)⟩, fun h => ?_⟩
    obtain ⟨d', r', e, h2, h1, h3⟩ := h
    injection e with e1 e2
    subst e1 e2
    exact ⟨h1, h2, fun e he => decide_eq_true (h3 e he)⟩
theorem NameS.v {z : Str} (h : NameS z) : nameV (.str z) = true := nameL_iff.mpr h
/-- a value of a known kind; a text not too long -/
def Fine (K : PySem.W.Frag) (H : Hp) (x : V) (k : Kn) : Prop := Kd K H x k ∧ ∀ z, x = .str z → z.length ≤ 10000
def spIsInt (K : PySem.W.Frag) : Sp := fun vs H Q _ => ∃ x k, vs = [x] ∧ Kd K H x k ∧ Q (.bl (isIntK k)) H
def spIsName (K : PySem.W.Frag) : Sp := fun vs H Q _ => ∃ x k, vs = [x] ∧ Fine K H x k ∧ Q (.bl (nameV x)) H
section
variable {P : Program} {w : World} {K : PySem.W.Frag} {mg : Str → Option Value} {base : Heap}
theorem ok_is_integer {f : Addr} {fd : FuncData} (F : Fun K "is_integer" "is_integer" s_is_integer f fd) (Z_int : mg "int" = none) (Z_bool : mg "bool" = none) (Z_isinstance : mg "isinstance" = none) : FnOk P w K mg base CX0 1 f fd ["thing"] (spIsInt K) := by
  refine F.ok sc_is_integer (fun vs H Q E h => ?_) (fun cdv A outer s H vs Q E hr h => ?_)
  · obtain ⟨_, _, rfl, _⟩ := h
    rfl
  · obtain ⟨x, k, rfl, hk, q⟩ := h
    refine ⟨_, (pss_one (ps_ret (pe_and (pe_callB call_isi (by rfl) Z_isinstance (by decide +kernel) (pa_cons (pv 0) (pa_cons (pe_bltn (v := .ty "int") (by rfl) Z_int (by decide +kernel) rfl) pa_nil))) (pe_one (pe_not (pe_callB call_isi (by rfl) Z_isinstance (by decide +kernel) (pa_cons (pv 0) (pa_cons (pe_bltn (v := .ty "bool") (by rfl) Z_bool (by decide +kernel) rfl) pa_nil)))))))), ?_⟩
    walk_at "go"
    refine x_isiInt hk ?_
    walk_at "go"
    cases k
    case int =>
      refine x_T ?_
      walk_at "go"
      refine x_isiBool hk ?_
      walk_at "go"
      exact q
    case bl =>
      refine x_T ?_
      walk_at "go"
      refine x_isiBool hk ?_
      walk_at "go"
      exact q
    all_goals
      refine x_F ?_
      exact q
theorem ok_is_name {f : Addr} {fd : FuncData} (F : Fun K "is_name" "is_name" s_is_name f fd) (Z_str : mg "str" = none) (Z_len : mg "len" = none) (Z_isinstance : mg "isinstance" = none) : FnOk P w K mg base CX0 1 f fd ["thing"] (spIsName K) := by
  refine F.ok sc_is_name (fun vs H Q E h => ?_) (fun cdv A outer s H vs Q E hr h => ?_)
  · obtain ⟨_, _, rfl, _⟩ := h
    rfl
  · obtain ⟨x, k, rfl, ⟨hk, hz⟩, q⟩ := h
    refine ⟨_, (pss_cons (ps_if (PW.pt (pw_or (pt_not (pt_val (pe_callB call_isi (by rfl) Z_isinstance (by decide +kernel) (pa_cons (pv 0) (pa_cons (pe_bltn (v := .ty "str") (by rfl) Z_str (by decide +kernel) rfl) pa_nil))))) (pw_or1 (pt_not (pt_chain op_le op_le pe_int (pe_callB call_lenA (by rfl) Z_len (by decide +kernel) (pa_cons (pv 0) pa_nil)) pe_int)))))
      (pss_one (ps_ret pe_bl))
      pss_nil)
      (pss_cons (ps_if (pt_not (pt_chain op_leS op_leS pe_str (pe_ix ix_str (pv 0) pe_int (fun _ _ => rfl)) pe_str))
      (pss_one (ps_ret pe_bl))
      pss_nil)
      (pss_cons (ps_for PassesOwn.never rfl (pi_str (pv 0)) (pg_name (i := 1) sc_is_name.nd rfl (Or.inl rfl))
      (pss_one (ps_if (PW.pt (pw_and (pt_not (pt_chain op_leS op_leS pe_str (pv 1) pe_str)) (pw_and1 (pt_not (pt_chain op_leS op_leS pe_str (pv 1) pe_str)))))
      (pss_one (ps_ret pe_bl))
      pss_nil)))
      (pss_one (ps_ret pe_bl))))), ?_⟩
    walk_at "go"
    refine x_isiStr hk ?_
    walk_at "go"
    have other : ∀ {x}, (∀ z, x ≠ V.str z) → nameV x = false := fun {x} h => by
      cases x with
      | str z => exact absurd rfl (h z)
      | _ => rfl
    cases hk with
    | str z =>
      have hzl := hz z rfl
      have hzs : z.length ≤ sizeLine := sz_le hzl
      refine x_nT ?_
      walk_at "go"
      refine x_lenS hzs ?_
      walk_at "go"
      have el := str_len z
      refine x_dec (fun h1 => ?_) (fun h1 => ?_)
      · walk_at "go"
        refine x_ndec (fun h8 => ?_) (fun h8 => ?_)
        · walk_at "go"
          have e : nameV (.str z) = false := by
            show nameL z.cps.toList = false
            cases ez : z.cps.toList with
            | nil => rfl
            | cons d r =>
              rw [el, ez] at h8
              simp at h8
              show (decide (r.length ≤ 7) && _) = false
              rw [decide_eq_false (by omega)]
              rfl
          rw [e] at q
          exact q
        · walk_at "go"
          cases ez : z.cps.toList with
          | nil =>
            rw [el, ez] at h1
            simp at h1
          | cons d r =>
            have hl7 : r.length ≤ 7 := by
              rw [el, ez] at h8
              simp at h8
              omega
            refine x_ixs 0 hzs rfl (by rw [ez]; rfl) ?_
            refine x_leL 97 chr_a ?_
            walk_at "go"
            have neg : ¬ lowC d → Q (.bl false) H := fun hn => by
              have e : nameV (.str z) = false := by
                show nameL z.cps.toList = false
                rw [ez]
                show (decide (r.length ≤ 7) && (decide (lowC d) && _)) = false
                rw [decide_eq_false hn]
                simp
              rw [e] at q
              exact q
            refine x_dec (fun ha => ?_) (fun ha => ?_)
            · walk_at "go"
              refine x_leR 122 chr_z ?_
              walk_at "go"
              refine x_ndec (fun hb => ?_) (fun hb => ?_)
              · walk_at "go"
                exact neg fun hl => hb hl.2
              · walk_at "go"
                have hlow : lowC d := ⟨ha, hb⟩
                refine lpS (fun i σ H' => ∃ v, σ = [some (.str z), v] ∧ H' = H ∧ ∀ j < i, ∃ e, (d :: r)[j]? = some e ∧ sgnC e) ?_ ?_ ?_
                · exact ⟨none, rfl, rfl, fun j hj => absurd hj (by omega)⟩
                · rintro i e σ H' hi ⟨v, rfl, rfl, hall⟩
                  have hi2 : (d :: r)[i]? = some e := by rw [← ez, Array.getElem?_toList]; exact hi
                  have bad : ¬ sgnC e → Q (.bl false) H' := fun hn => by
                    have e0 : nameV (.str z) = false := by
                      show nameL z.cps.toList = false
                      rw [ez]
                      cases i with
                      | zero =>
                        have : d = e := Option.some.inj hi2
                        subst this
                        exact absurd (.inl hlow) hn
                      | succ i =>
                        have hm : e ∈ r := List.mem_of_getElem? (i := i) hi2
                        have : (r.all fun e => decide (sgnC e)) = false := by
                          cases ea : (r.all fun e => decide (sgnC e)) with
                          | false => rfl
                          | true => exact absurd (of_decide_eq_true (List.all_eq_true.mp ea e hm)) hn
                        show (decide (r.length ≤ 7) && (decide (lowC d) && (r.all fun e => decide (sgnC e)))) = false
                        rw [this]
                        simp
                    rw [e0] at q
                    exact q
                  have good : sgnC e → ∀ j < i + 1, ∃ e, (d :: r)[j]? = some e ∧ sgnC e := fun hg j hj => by
                    by_cases ej : j = i
                    · subst ej; exact ⟨e, hi2, hg⟩
                    · exact hall j (by omega)
                  walk_at "go"
                  refine x_leL 97 chr_a ?_
                  walk_at "go"
                  have second : ¬ (97 ≤ e ∧ e ≤ 122) → (48 ≤ e ∧ e ≤ 57 → sgnC e) := fun _ h => .inr h
                  refine x_dec (fun ha => ?_) (fun ha => ?_)
                  · walk_at "go"
                    refine x_leR 122 chr_z ?_
                    walk_at "go"
                    refine x_ndec (fun hb => ?_) (fun hb => ?_)
                    · walk_at "go"
                      refine x_leL 48 chr_0 ?_
                      walk_at "go"
                      refine x_dec (fun hc => ?_) (fun hc => ?_)
                      · walk_at "go"
                        refine x_leR 57 chr_9 ?_
                        walk_at "go"
                        refine x_ndec (fun hd => ?_) (fun hd => ?_)
                        · walk_at "go"
                          exact bad fun hs => by rcases hs with hs | hs <;> omega
                        · walk_at "go"
                          exact ⟨_, rfl, rfl, good (.inr ⟨hc, hd⟩)⟩
                      · walk_at "go"
                        exact bad fun hs => by rcases hs with hs | hs <;> omega
                    · walk_at "go"
                      exact ⟨_, rfl, rfl, good (.inl ⟨ha, hb⟩)⟩
                  · walk_at "go"
                    refine x_leL 48 chr_0 ?_
                    walk_at "go"
                    refine x_dec (fun hc => ?_) (fun hc => ?_)
                    · walk_at "go"
                      refine x_leR 57 chr_9 ?_
                      walk_at "go"
                      refine x_ndec (fun hd => ?_) (fun hd => ?_)
                      · walk_at "go"
                        exact bad fun hs => by rcases hs with hs | hs <;> omega
                      · walk_at "go"
                        exact ⟨_, rfl, rfl, good (.inr ⟨hc, hd⟩)⟩
                    · walk_at "go"
                      exact bad fun hs => by rcases hs with hs | hs <;> omega
                · rintro σ H' ⟨v, rfl, rfl, hall⟩
                  walk_at "go"
                  have e : nameV (.str z) = true := by
                    refine nameL_iff.mpr ⟨d, r, ez, hlow, hl7, fun e he => ?_⟩
                    obtain ⟨j, hj, hje⟩ := List.getElem_of_mem he
                    obtain ⟨e', h1, h2⟩ := hall (j + 1) (by
                      have : z.cps.size = (d :: r).length := by rw [← ez]; simp
                      rw [this]
                      simp
                      exact hj)
                    have h3 : (d :: r)[j + 1]? = some e := by
                      show r[j]? = some e
                      rw [List.getElem?_eq_getElem hj, hje]
                    rw [h3] at h1
                    cases h1
                    exact h2
                  rw [e] at q
                  exact q
            · walk_at "go"
              exact neg fun hl => ha hl.1
      · walk_at "go"
        have e : nameV (.str z) = false := by
          show nameL z.cps.toList = false
          cases ez : z.cps.toList with
          | nil => rfl
          | cons d r =>
            rw [el, ez] at h1
            simp at h1
            omega
        rw [e] at q
        exact q
    | non => rw [other (fun z => by simp)] at q; refine x_nF ?_; walk_at "go"; exact q
    | bl b => rw [other (fun z => by simp)] at q; refine x_nF ?_; walk_at "go"; exact q
    | int i => rw [other (fun z => by simp)] at q; refine x_nF ?_; walk_at "go"; exact q
    | lst h => rw [other (fun z => by simp)] at q; refine x_nF ?_; walk_at "go"; exact q
    | tup h => rw [other (fun z => by simp)] at q; refine x_nF ?_; walk_at "go"; exact q
    | dict h => rw [other (fun z => by simp)] at q; refine x_nF ?_; walk_at "go"; exact q
end
/-! ### works: the judges, of what is right -/
/-- a stand -/
inductive Sd where
  | fin
  | chance (l : List (Str × (Str × Int)))
  | hand (k : Int) (l : List (Str × Str))
/-- a dict of references, each of which stands for something -/
structure DictOf {α : Type} (R : Hp → Addr → α → Prop) (H : Hp) (d : Addr) (l : List (Str × α)) : Prop where
  ex : ∃ m : List (Str × Addr), H d = some (.dK (strK V.ref m)) ∧ m.map (·.1) = l.map (·.1) ∧ ∀ z a, (z, a) ∈ m → ∃ x, l.lookup z = some x ∧ R H a x
def PairAt (H : Hp) (a : Addr) (x : Str × Int) : Prop := H a = some (.tup [.str x.1, .int x.2])
def SdAt (H : Hp) (a : Addr) : Sd → Prop
  | .fin => H a = some (.tup [.str "end"])
  | .chance l => ∃ d, H a = some (.tup [.str "chance", .ref d]) ∧ DictOf PairAt H d l
  | .hand k l => ∃ d, H a = some (.tup [.str "hand", .int k, .ref d]) ∧ H d = some (.dK (strK V.str l))
theorem DictOf.imp {α : Type} {R : Hp → Addr → α → Prop} {H H' : Hp} {d : Addr} {l : List (Str × α)} (h : DictOf R H d l) (s : L2.Same H H') (hR : ∀ a x, R H a x → R H' a x) : DictOf R H' d l := by
  obtain ⟨m, h1, h2, h3⟩ := h.ex
  exact ⟨m, s _ _ h1, h2, fun z a hm => by
    obtain ⟨x, e, r⟩ := h3 z a hm
    exact ⟨x, e, hR _ _ r⟩⟩
theorem SdAt.same {H H' : Hp} {a : Addr} {x : Sd} (h : SdAt H a x) (s : L2.Same H H') : SdAt H' a x := by
  cases x with
  | fin => exact s _ _ h
  | chance l =>
    obtain ⟨d, h1, h2⟩ := h
    exact ⟨d, s _ _ h1, h2.imp s fun _ _ h => s _ _ h⟩
  | hand k l =>
    obtain ⟨d, h1, h2⟩ := h
    exact ⟨d, s _ _ h1, s _ _ h2⟩
theorem DictOf.same {H H' : Hp} {d : Addr} {l : List (Str × Sd)} (h : DictOf SdAt H d l) (s : L2.Same H H') : DictOf SdAt H' d l := h.imp s fun _ _ h => h.same s
/-- a right stand, of names ns and less than h hands -/
def GoodSd (h : Int) (ns : List Str) : Sd → Prop
  | .fin => True
  | .chance l => (l.map (·.1)).Nodup ∧ 1 ≤ l.length ∧ l.length ≤ 4 ∧ ∀ q ∈ l, NameS q.1 ∧ q.2.1 ∈ ns ∧ 1 ≤ q.2.2 ∧ q.2.2 ≤ 9
  | .hand k l => 0 ≤ k ∧ k < h ∧ (l.map (·.1)).Nodup ∧ 1 ≤ l.length ∧ l.length ≤ 4 ∧ ∀ q ∈ l, NameS q.1 ∧ q.2 ∈ ns
theorem x_name {K : PySem.W.Frag} {H : Hp} {Q : VK} {E : XK} {z : Str} (g : NameS z) (q : Q (.bl true) H) : spIsName K [.str z] H Q E :=
  ⟨.str z, .str, rfl, ⟨.str z, fun z' e => by cases e; exact Nat.le_trans g.len (by decide)⟩, by rw [g.v]; exact q⟩
def spIsPair (K : PySem.W.Frag) : Sp := fun vs H Q _ => ∃ a xs, vs = [.ref a] ∧ SqT K H a xs ∧ Q (.bl (decide (xs.length = 2))) H
def spIsMoves : Sp := fun vs H Q _ => ∃ (d n : Addr) (l : List (Str × Str)) (m : List (Str × Addr)), vs = [.ref d, .ref n] ∧ H d = some (.dK (strK V.str l)) ∧ n ≠ d ∧ Rd H n (.dK (strK V.ref m)) ∧ 1 ≤ l.length ∧ l.length ≤ 4 ∧
  (∀ q ∈ l, NameS q.1 ∧ NameS q.2 ∧ q.2 ∈ m.map (·.1)) ∧ ∀ H', L2.Same H H' → Q (.bl true) H'
def spIsDraws : Sp := fun vs H Q _ => ∃ (d n : Addr) (l : List (Str × (Str × Int))) (m : List (Str × Addr)), vs = [.ref d, .ref n] ∧ DictOf PairAt H d l ∧ n ≠ d ∧ Rd H n (.dK (strK V.ref m)) ∧ 1 ≤ l.length ∧ l.length ≤ 4 ∧
  (∀ z q, l.lookup z = some q → NameS z ∧ NameS q.1 ∧ q.1 ∈ m.map (·.1) ∧ 1 ≤ q.2 ∧ q.2 ≤ 9) ∧ ∀ H', L2.Same H H' → Q (.bl true) H'
theorem keyIn {m : List (Str × Addr)} {z : Str} (h : z ∈ m.map (·.1)) : (m.lookup z).isSome = true := by
  obtain ⟨x, hx⟩ := lookup_isSome h
  rw [hx]
  rfl
section
variable {P : Program} {w : World} {K : PySem.W.Frag} {mg : Str → Option Value} {base : Heap}
theorem ok_is_pair {f : Addr} {fd : FuncData} (F : Fun K "is_pair" "is_pair" s_is_pair f fd) (Z_tuple : mg "tuple" = none) (Z_len : mg "len" = none) (Z_isinstance : mg "isinstance" = none) : FnOk P w K mg base CX0 1 f fd ["thing"] (spIsPair K) := by
  refine F.ok sc_is_pair (fun vs H Q E h => ?_) (fun cdv A outer s H vs Q E hr h => ?_)
  · obtain ⟨_, _, rfl, _⟩ := h
    rfl
  · obtain ⟨a, xs, rfl, ha, q⟩ := h
    refine ⟨_, (pss_one (ps_ret (pe_and (pe_callB call_isi (by rfl) Z_isinstance (by decide +kernel) (pa_cons (pv 0) (pa_cons (pe_bltn (v := .ty "tuple") (by rfl) Z_tuple (by decide +kernel) rfl) pa_nil))) (pe_one (pe_cmpR op_eq (pe_callB call_lenA (by rfl) Z_len (by decide +kernel) (pa_cons (pv 0) pa_nil)) pe_int (nomark _)))))), ?_⟩
    walk_at "go"
    refine x_isiTup (.tup ha) ?_
    walk_at "go"
    refine x_T ?_
    walk_at "go"
    refine x_lenT ha ?_
    walk_at "go"
    have e : decide ((xs.length : Int) = 2) = decide (xs.length = 2) := decide_eq_decide.mpr (by omega)
    rw [e]
    exact q
theorem ok_is_moves {f : Addr} {fd : FuncData} (F : Fun K "is_moves" "is_moves" s_is_moves f fd) (Z_dict : mg "dict" = none) (Z_len : mg "len" = none) (Z_isinstance : mg "isinstance" = none)
    (C_is_name : Cal P w K mg base 1 "is_name" ["thing"] (spIsName K)) : FnOk P w K mg base CX0 2 f fd ["thing", "names"] spIsMoves := by
  refine F.ok sc_is_moves (fun vs H Q E h => ?_) (fun cdv A outer s H vs Q E hr h => ?_)
  · obtain ⟨_, _, _, _, rfl, _⟩ := h
    rfl
  · obtain ⟨d, n, l, m, rfl, hd, nd, hn, l1, l4, hg, q⟩ := h
    have hu := hu_of hr
    refine ⟨_, (pss_cons (ps_if (PW.pt (pw_or (pt_not (pt_val (pe_callB call_isi (by rfl) Z_isinstance (by decide +kernel) (pa_cons (pv 0) (pa_cons (pe_bltn (v := .ty "dict") (by rfl) Z_dict (by decide +kernel) rfl) pa_nil))))) (pw_or1 (pt_not (pt_chain op_le op_le pe_int (pe_callB call_lenDA (by rfl) Z_len (by decide +kernel) (pa_cons (pv 0) pa_nil)) pe_int)))))
      (pss_one (ps_ret pe_bl))
      pss_nil)
      (pss_cons (ps_lock (ps_for PassesOwn.never rfl (pi_items (pv 0)) (pg_tup rfl (pgs_cons (pg_name (i := 2) sc_is_moves.nd rfl (Or.inl rfl)) (pgs_cons (pg_name (i := 3) sc_is_moves.nd rfl (Or.inl rfl)) pgs_nil)))
      (pss_one (ps_if (PW.pt (pw_or (pt_not (pt_val (pe_cal C_is_name (hr.mono (by decide)) (by rfl) (pa_cons (pv 2) pa_nil)))) (pw_or (pt_not (pt_val (pe_cal C_is_name (hr.mono (by decide)) (by rfl) (pa_cons (pv 3) pa_nil)))) (pw_or1 (pt_cmp (pc_dnotin hu (pv 3) (pv 1)))))))
      (pss_one (ps_ret pe_bl))
      pss_nil))))
      (pss_one (ps_ret pe_bl)))), ?_⟩
    have hl : (strK V.str l).length = l.length := List.length_map ..
    walk_at "go"
    refine x_isiDict (.dict (.inl hd)) ?_
    walk_at "go"
    refine x_nT ?_
    walk_at "go"
    refine x_lenD (.inl hd) ?_
    rw [hl]
    walk_at "go"
    refine x_yes (by omega) ?_
    walk_at "go"
    refine x_nyes (by omega) ?_
    walk_at "go"
    refine x_lock hd trivial fun od => ?_
    walk_at "go"
    refine lpI (kvs := strK V.str l) (fun i σ H' => ∃ v1 v2, σ = [some (.ref d), some (.ref n), v1, v2] ∧ L2.Same (upd H d (.frz od (.dK (strK V.str l)))) H') upd_same ?_ ?_ ?_ ?_
    · exact ⟨none, none, rfl, L2.Same.refl _⟩
    · exact fun i σ H' _ ⟨_, _, _, s1⟩ => s1 d _ upd_same
    · rintro i k0 v0 σ H' T hi ⟨v1, v2, rfl, s1⟩ hT
      obtain ⟨z, x, rfl, rfl, hlx⟩ := strK_at hi
      obtain ⟨g1, g2, g3⟩ := hg _ (List.mem_of_getElem? hlx)
      have s2 : L2.Same (upd H d (.frz od (.dK (strK V.str l)))) (upd H' T (.tup [kV (Sum.inr z), .str x])) := same_upd s1 (s1.free hT)
      refine x_g2 (SqT.of upd_same) ?_
      walk_at "go"
      refine x_name g1 ?_
      walk_at "go"
      refine x_name g2 ?_
      walk_at "go"
      refine x_ninD (l := m) (same_rd s2 (rd_held nd hn)) ?_
      rw [keyIn g3]
      refine ⟨false, rfl, x_F ?_⟩
      walk_at "go"
      exact ⟨_, _, rfl, s2⟩
    · rintro σ H' ⟨v1, v2, rfl, s1⟩
      refine ⟨s1 d _ upd_same, ?_⟩
      walk_at "go"
      exact q _ (same_back hd s1)
theorem ok_is_draws {f : Addr} {fd : FuncData} (F : Fun K "is_draws" "is_draws" s_is_draws f fd) (Z_dict : mg "dict" = none) (Z_len : mg "len" = none) (Z_isinstance : mg "isinstance" = none)
    (C_is_name : Cal P w K mg base 1 "is_name" ["thing"] (spIsName K)) (C_is_pair : Cal P w K mg base 1 "is_pair" ["thing"] (spIsPair K)) (C_is_integer : Cal P w K mg base 1 "is_integer" ["thing"] (spIsInt K)) : FnOk P w K mg base CX0 2 f fd ["thing", "names"] spIsDraws := by
  refine F.ok sc_is_draws (fun vs H Q E h => ?_) (fun cdv A outer s H vs Q E hr h => ?_)
  · obtain ⟨_, _, _, _, rfl, _⟩ := h
    rfl
  · obtain ⟨d, n, l, m, rfl, hD, nd, hn, l1, l4, hg, q⟩ := h
    obtain ⟨p, hd, hk, hp⟩ := hD.ex
    have hu := hu_of hr
    refine ⟨_, (pss_cons (ps_if (PW.pt (pw_or (pt_not (pt_val (pe_callB call_isi (by rfl) Z_isinstance (by decide +kernel) (pa_cons (pv 0) (pa_cons (pe_bltn (v := .ty "dict") (by rfl) Z_dict (by decide +kernel) rfl) pa_nil))))) (pw_or1 (pt_not (pt_chain op_le op_le pe_int (pe_callB call_lenDA (by rfl) Z_len (by decide +kernel) (pa_cons (pv 0) pa_nil)) pe_int)))))
      (pss_one (ps_ret pe_bl))
      pss_nil)
      (pss_cons (ps_lock (ps_for PassesOwn.never rfl (pi_items (pv 0)) (pg_tup rfl (pgs_cons (pg_name (i := 2) sc_is_draws.nd rfl (Or.inl rfl)) (pgs_cons (pg_name (i := 3) sc_is_draws.nd rfl (Or.inl rfl)) pgs_nil)))
      (pss_cons (ps_if (PW.pt (pw_or (pt_not (pt_val (pe_cal C_is_name (hr.mono (by decide)) (by rfl) (pa_cons (pv 2) pa_nil)))) (pw_or1 (pt_not (pt_val (pe_cal C_is_pair (hr.mono (by decide)) (by rfl) (pa_cons (pv 3) pa_nil)))))))
      (pss_one (ps_ret pe_bl))
      pss_nil)
      (pss_cons (ps_if (PW.pt (pw_or (pt_not (pt_val (pe_cal C_is_name (hr.mono (by decide)) (by rfl) (pa_cons (pe_ix ix_tup (pv 3) pe_int (fun _ _ => rfl)) pa_nil)))) (pw_or1 (pt_cmp (pc_dnotin hu (pe_ix ix_tup (pv 3) pe_int (fun _ _ => rfl)) (pv 1))))))
      (pss_one (ps_ret pe_bl))
      pss_nil)
      (pss_one (ps_if (PW.pt (pw_or (pt_not (pt_val (pe_cal C_is_integer (hr.mono (by decide)) (by rfl) (pa_cons (pe_ix ix_tup (pv 3) pe_int (fun _ _ => rfl)) pa_nil)))) (pw_or1 (pt_not (pt_chain op_le op_le pe_int (pe_ix ix_tup (pv 3) pe_int (fun _ _ => rfl)) pe_int)))))
      (pss_one (ps_ret pe_bl))
      pss_nil))))))
      (pss_one (ps_ret pe_bl)))), ?_⟩
    have hl : (strK V.ref p).length = l.length := by
      rw [List.length_map]
      have := congrArg List.length hk
      rwa [List.length_map, List.length_map] at this
    walk_at "go"
    refine x_isiDict (.dict (.inl hd)) ?_
    walk_at "go"
    refine x_nT ?_
    walk_at "go"
    refine x_lenD (.inl hd) ?_
    rw [hl]
    walk_at "go"
    refine x_yes (by omega) ?_
    walk_at "go"
    refine x_nyes (by omega) ?_
    walk_at "go"
    refine x_lock hd trivial fun od => ?_
    walk_at "go"
    refine lpI (kvs := strK V.ref p) (fun i σ H' => ∃ v1 v2, σ = [some (.ref d), some (.ref n), v1, v2] ∧ L2.Same (upd H d (.frz od (.dK (strK V.ref p)))) H') upd_same ?_ ?_ ?_ ?_
    · exact ⟨none, none, rfl, L2.Same.refl _⟩
    · exact fun i σ H' _ ⟨_, _, _, s1⟩ => s1 d _ upd_same
    · rintro i k0 v0 σ H' T hi ⟨v1, v2, rfl, s1⟩ hT
      obtain ⟨z, x, rfl, rfl, hlx⟩ := strK_at hi
      obtain ⟨y, hy, hx⟩ := hp _ _ (List.mem_of_getElem? hlx)
      obtain ⟨g1, g2, g3, g4, g5⟩ := hg _ _ hy
      have s2 : L2.Same (upd H d (.frz od (.dK (strK V.ref p)))) (upd H' T (.tup [kV (Sum.inr z), .ref x])) := same_upd s1 (s1.free hT)
      have hxd : x ≠ d := fun e => by subst e; rw [show H x = _ from hx] at hd; cases hd
      have hx2 : (upd H' T (.tup [kV (Sum.inr z), .ref x])) x = some (.tup [.str y.1, .int y.2]) := s2 _ _ (by rw [upd_ne hxd]; exact hx)
      refine x_g2 (SqT.of upd_same) ?_
      walk_at "go"
      refine x_name g1 ?_
      walk_at "go"
      refine ⟨_, _, rfl, SqT.of hx2, ?_⟩
      walk_at "go"
      refine x_nyes rfl ?_
      walk_at "go"
      refine x_ixt 0 (SqT.of hx2) rfl rfl ?_
      walk_at "go"
      refine x_name g2 ?_
      walk_at "go"
      refine x_ixt 0 (SqT.of hx2) rfl rfl ?_
      walk_at "go"
      refine x_ninD (l := m) (same_rd s2 (rd_held nd hn)) ?_
      rw [keyIn g3]
      refine ⟨false, rfl, x_F ?_⟩
      walk_at "go"
      refine x_ixt 1 (SqT.of hx2) rfl rfl ?_
      walk_at "go"
      refine ⟨_, _, rfl, .int _, ?_⟩
      walk_at "go"
      refine x_nT ?_
      walk_at "go"
      refine x_ixt 1 (SqT.of hx2) rfl rfl ?_
      walk_at "go"
      refine x_yes (by omega) ?_
      walk_at "go"
      refine x_nyes (by omega) ?_
      walk_at "go"
      exact ⟨_, _, rfl, s2⟩
    · rintro σ H' ⟨v1, v2, rfl, s1⟩
      refine ⟨s1 d _ upd_same, ?_⟩
      walk_at "go"
      exact q _ (same_back hd s1)
/-- a stand, judged among the stands at n -/
def spIsStand (K : PySem.W.Frag) : Sp := fun vs H Q _ => ∃ (a n : Addr) (h : Int) (x : Sd) (m : List (Str × Addr)), vs = [.ref a, .int h, .ref n] ∧ SdAt H a x ∧ (∀ o, H n ≠ some (.dK o)) ∧ Rd H n (.dK (strK V.ref m)) ∧ GoodSd h (m.map (·.1)) x ∧ (∀ z ∈ m.map (·.1), NameS z) ∧
  ∀ H', L2.Same H H' → Q (.bl true) H'
theorem ok_is_stand {f : Addr} {fd : FuncData} (F : Fun K "is_stand" "is_stand" s_is_stand f fd) (Z_tuple : mg "tuple" = none) (Z_str : mg "str" = none) (Z_len : mg "len" = none) (Z_isinstance : mg "isinstance" = none)
    (C_is_moves : Cal P w K mg base 2 "is_moves" ["thing", "names"] spIsMoves) (C_is_draws : Cal P w K mg base 2 "is_draws" ["thing", "names"] spIsDraws) (C_is_integer : Cal P w K mg base 1 "is_integer" ["thing"] (spIsInt K)) : FnOk P w K mg base CX0 3 f fd ["thing", "hands", "names"] (spIsStand K) := by
  refine F.ok sc_is_stand (fun vs H Q E h => ?_) (fun cdv A outer s H vs Q E hr h => ?_)
  · obtain ⟨_, _, _, _, _, rfl, _⟩ := h
    rfl
  · obtain ⟨a, n, h, x, m, rfl, hx, hnf, hn, hg, hnm, q⟩ := h
    refine ⟨_, (pss_cons (ps_if (PW.pt (pw_or (pt_not (pt_val (pe_callB call_isi (by rfl) Z_isinstance (by decide +kernel) (pa_cons (pv 0) (pa_cons (pe_bltn (v := .ty "tuple") (by rfl) Z_tuple (by decide +kernel) rfl) pa_nil))))) (pw_or (pt_cmpR op_eq (pe_callB call_lenA (by rfl) Z_len (by decide +kernel) (pa_cons (pv 0) pa_nil)) pe_int (nomark _)) (pw_or1 (pt_not (pt_val (pe_callB call_isi (by rfl) Z_isinstance (by decide +kernel) (pa_cons (pe_ix ix_tup (pv 0) pe_int (fun _ _ => rfl)) (pa_cons (pe_bltn (v := .ty "str") (by rfl) Z_str (by decide +kernel) rfl) pa_nil)))))))))
      (pss_one (ps_ret pe_bl))
      pss_nil)
      (pss_cons (ps_if (pt_cmpR op_eq (pe_ix ix_tup (pv 0) pe_int (fun _ _ => rfl)) pe_str (nomark _))
      (pss_one (ps_ret (pe_cmpR op_eq (pe_callB call_lenA (by rfl) Z_len (by decide +kernel) (pa_cons (pv 0) pa_nil)) pe_int (nomark _))))
      pss_nil)
      (pss_cons (ps_if (pt_cmpR op_eq (pe_ix ix_tup (pv 0) pe_int (fun _ _ => rfl)) pe_str (nomark _))
      (pss_one (ps_ret (pe_and (pe_cmpR op_eq (pe_callB call_lenA (by rfl) Z_len (by decide +kernel) (pa_cons (pv 0) pa_nil)) pe_int (nomark _)) (pe_one (pe_cal C_is_draws (hr.mono (by decide)) (by rfl) (pa_cons (pe_ix ix_tup (pv 0) pe_int (fun _ _ => rfl)) (pa_cons (pv 2) pa_nil)))))))
      pss_nil)
      (pss_cons (ps_if (PW.pt (pw_or (pt_cmpR op_ne (pe_ix ix_tup (pv 0) pe_int (fun _ _ => rfl)) pe_str (nomark _)) (pw_or1 (pt_cmpR op_ne (pe_callB call_lenA (by rfl) Z_len (by decide +kernel) (pa_cons (pv 0) pa_nil)) pe_int (nomark _)))))
      (pss_one (ps_ret pe_bl))
      pss_nil)
      (pss_cons (ps_if (PW.pt (pw_or (pt_not (pt_val (pe_cal C_is_integer (hr.mono (by decide)) (by rfl) (pa_cons (pe_ix ix_tup (pv 0) pe_int (fun _ _ => rfl)) pa_nil)))) (pw_or1 (pt_not (pt_chain op_le op_lt pe_int (pe_ix ix_tup (pv 0) pe_int (fun _ _ => rfl)) (pv 1))))))
      (pss_one (ps_ret pe_bl))
      pss_nil)
      (pss_one (ps_ret (pe_cal C_is_moves (hr.mono (by decide)) (by rfl) (pa_cons (pe_ix ix_tup (pv 0) pe_int (fun _ _ => rfl)) (pa_cons (pv 2) pa_nil)))))))))), ?_⟩
    walk_at "go"
    cases x with
    | fin =>
      have ha : H a = some (.tup [.str "end"]) := hx
      refine x_isiTup (.tup (SqT.of ha)) ?_
      walk_at "go"
      refine x_nT ?_
      walk_at "go"
      refine x_lenT (SqT.of ha) ?_
      walk_at "go"
      refine x_no (fun z => by cases z) ?_
      walk_at "go"
      refine x_ixt 0 (SqT.of ha) rfl rfl ?_
      walk_at "go"
      refine x_isiStr (.str _) ?_
      walk_at "go"
      refine x_nT ?_
      walk_at "go"
      refine x_ixt 0 (SqT.of ha) rfl rfl ?_
      walk_at "go"
      refine x_yes rfl ?_
      walk_at "go"
      refine x_lenT (SqT.of ha) ?_
      walk_at "go"
      exact q H (L2.Same.refl H)
    | chance l =>
      obtain ⟨d, ha, hD⟩ := hx
      obtain ⟨g1, g2, g3, g4⟩ := hg
      refine x_isiTup (.tup (SqT.of ha)) ?_
      walk_at "go"
      refine x_nT ?_
      walk_at "go"
      refine x_lenT (SqT.of ha) ?_
      walk_at "go"
      refine x_no (fun z => by cases z) ?_
      walk_at "go"
      refine x_ixt 0 (SqT.of ha) rfl rfl ?_
      walk_at "go"
      refine x_isiStr (.str _) ?_
      walk_at "go"
      refine x_nT ?_
      walk_at "go"
      refine x_ixt 0 (SqT.of ha) rfl rfl ?_
      walk_at "go"
      refine x_no (by decide +kernel) ?_
      walk_at "go"
      refine x_ixt 0 (SqT.of ha) rfl rfl ?_
      walk_at "go"
      refine x_yes rfl ?_
      walk_at "go"
      refine x_lenT (SqT.of ha) ?_
      walk_at "go"
      refine x_yes rfl ?_
      walk_at "go"
      refine x_ixt 1 (SqT.of ha) rfl rfl ?_
      walk_at "go"
      have hnd : n ≠ d := fun e => by
        obtain ⟨p, hd, _⟩ := hD.ex
        rw [e] at hnf
        exact hnf _ hd
      refine ⟨d, n, l, m, rfl, hD, hnd, hn, g2, g3, fun z y hz => ?_, q⟩
      have := g4 _ (lookup_mem hz)
      exact ⟨this.1, hnm _ this.2.1, this.2.1, this.2.2.1, this.2.2.2⟩
    | hand k l =>
      obtain ⟨d, ha, hd⟩ := hx
      obtain ⟨g1, g2, g3, g4, g5, g6⟩ := hg
      refine x_isiTup (.tup (SqT.of ha)) ?_
      walk_at "go"
      refine x_nT ?_
      walk_at "go"
      refine x_lenT (SqT.of ha) ?_
      walk_at "go"
      refine x_no (fun z => by cases z) ?_
      walk_at "go"
      refine x_ixt 0 (SqT.of ha) rfl rfl ?_
      walk_at "go"
      refine x_isiStr (.str _) ?_
      walk_at "go"
      refine x_nT ?_
      walk_at "go"
      refine x_ixt 0 (SqT.of ha) rfl rfl ?_
      walk_at "go"
      refine x_no (by decide +kernel) ?_
      walk_at "go"
      refine x_ixt 0 (SqT.of ha) rfl rfl ?_
      walk_at "go"
      refine x_no (by decide +kernel) ?_
      walk_at "go"
      refine x_ixt 0 (SqT.of ha) rfl rfl ?_
      walk_at "go"
      refine x_nyes rfl ?_
      walk_at "go"
      refine x_lenT (SqT.of ha) ?_
      walk_at "go"
      refine x_nyes rfl ?_
      walk_at "go"
      refine x_ixt 1 (SqT.of ha) rfl rfl ?_
      walk_at "go"
      refine ⟨_, _, rfl, .int _, ?_⟩
      walk_at "go"
      refine x_nT ?_
      walk_at "go"
      refine x_ixt 1 (SqT.of ha) rfl rfl ?_
      walk_at "go"
      refine x_yes (by omega) ?_
      walk_at "go"
      refine x_nyes (by omega) ?_
      walk_at "go"
      refine x_ixt 2 (SqT.of ha) rfl rfl ?_
      walk_at "go"
      have hnd : n ≠ d := fun e => by
        rw [e] at hnf
        exact hnf _ hd
      refine ⟨d, n, l, m, rfl, hd, hnd, hn, g4, g5, fun y hy => ?_, q⟩
      have := g6 _ hy
      exact ⟨this.1, hnm _ this.2, this.2⟩
theorem strK_inj {α : Type} {f : α → V} (hf : ∀ a b, f a = f b → a = b) : ∀ {l l' : List (Str × α)}, strK f l = strK f l' → l = l'
  | [], [], _ => rfl
  | [], _ :: _, h => by cases h
  | _ :: _, [], h => by cases h
  | p :: r, p' :: r', h => by
    have h1 : ((Sum.inr p.1 : Key), f p.2) :: strK f r = ((Sum.inr p'.1 : Key), f p'.2) :: strK f r' := h
    injection h1 with h2 h3
    injection h2 with h4 h5
    have e1 : p.1 = p'.1 := Sum.inr.inj h4
    have e2 := hf _ _ h5
    have e3 : p = p' := by
      obtain ⟨a, b⟩ := p
      obtain ⟨c, d⟩ := p'
      cases e1
      cases e2
      rfl
    rw [e3, strK_inj hf h3]
theorem sd_held {H : Hp} {d a : Addr} {u : HO} {m : List (Str × Addr)} {z : Str} {x : Sd} {h : Int} {ns : List Str} (hd : H d = some (.dK (strK V.ref m))) (hm : (z, a) ∈ m) (hx : SdAt H a x) (hg : GoodSd h ns x) : SdAt (upd H d u) a x := by
  cases x with
  | fin =>
    have ha : H a = some (.tup [.str "end"]) := hx
    have n1 : a ≠ d := ne_of ha hd (by intro z; cases z)
    show upd H d u a = _
    rw [upd_ne n1]
    exact ha
  | chance l =>
    obtain ⟨d2, ha, hD⟩ := hx
    obtain ⟨m2, h1, h2, h3⟩ := hD.ex
    have n1 : a ≠ d := ne_of ha hd (by intro z; cases z)
    have n2 : d2 ≠ d := fun e => by
      subst e
      rw [hd] at h1
      have e1 := strK_inj (f := V.ref) (fun a b e => by cases e; rfl) (HO.dK.inj (Option.some.inj h1))
      rw [e1] at hm
      obtain ⟨y, _, hy⟩ := h3 _ _ hm
      rw [show H a = _ from hy] at ha
      injection ha with ha
      injection ha with ha
      injection ha with _ ha
      injection ha with ha _
      cases ha
    refine ⟨d2, by rw [upd_ne n1]; exact ha, ⟨m2, by rw [upd_ne n2]; exact h1, h2, fun z a hza => ?_⟩⟩
    obtain ⟨y, hy, hp⟩ := h3 _ _ hza
    refine ⟨y, hy, ?_⟩
    have n3 : a ≠ d := ne_of (show H a = some _ from hp) hd (by intro z; cases z)
    show upd H d u a = _
    rw [upd_ne n3]
    exact hp
  | hand k l =>
    obtain ⟨d2, ha, h1⟩ := hx
    have n1 : a ≠ d := ne_of ha hd (by intro z; cases z)
    have n2 : d2 ≠ d := fun e => by
      subst e
      rw [hd] at h1
      have e1 := HO.dK.inj (Option.some.inj h1)
      obtain ⟨_, _, _, hl, _⟩ := hg
      cases l with
      | nil => exact absurd hl (by decide)
      | cons p r =>
        cases m with
        | nil => cases e1
        | cons p' r' =>
          have e2 : ((Sum.inr p'.1 : Key), V.ref p'.2) :: strK V.ref r' = ((Sum.inr p.1 : Key), V.str p.2) :: strK V.str r := e1
          injection e2 with e3 _
          injection e3 with _ e4
          cases e4
    exact ⟨d2, by rw [upd_ne n1]; exact ha, by rw [upd_ne n2]; exact h1⟩
/-- the stands of a work -/
structure GoodT (h : Int) (l : List (Str × Sd)) : Prop where
  nd : (l.map (·.1)).Nodup
  l1 : 1 ≤ l.length
  l2 : l.length ≤ 100
  nm : ∀ z ∈ l.map (·.1), NameS z
  sd : ∀ z x, l.lookup z = some x → GoodSd h (l.map (·.1)) x
def spAreStands : Sp := fun vs H Q _ => ∃ (d : Addr) (h : Int) (l : List (Str × Sd)), vs = [.ref d, .int h] ∧ DictOf SdAt H d l ∧ GoodT h l ∧ ∀ H', L2.Same H H' → Q (.bl true) H'
theorem ok_are_stands {f : Addr} {fd : FuncData} (F : Fun K "are_stands" "are_stands" s_are_stands f fd) (Z_dict : mg "dict" = none) (Z_len : mg "len" = none) (Z_isinstance : mg "isinstance" = none)
    (C_is_name : Cal P w K mg base 1 "is_name" ["thing"] (spIsName K)) (C_is_stand : Cal P w K mg base 3 "is_stand" ["thing", "hands", "names"] (spIsStand K)) : FnOk P w K mg base CX0 4 f fd ["thing", "hands"] spAreStands := by
  refine F.ok sc_are_stands (fun vs H Q E h => ?_) (fun cdv A outer s H vs Q E hr h => ?_)
  · obtain ⟨_, _, _, rfl, _⟩ := h
    rfl
  · obtain ⟨d, h, l, rfl, hD, g, q⟩ := h
    obtain ⟨m, hd, hk, hp⟩ := id hD.ex
    refine ⟨_, (pss_cons (ps_if (PW.pt (pw_or (pt_not (pt_val (pe_callB call_isi (by rfl) Z_isinstance (by decide +kernel) (pa_cons (pv 0) (pa_cons (pe_bltn (v := .ty "dict") (by rfl) Z_dict (by decide +kernel) rfl) pa_nil))))) (pw_or1 (pt_not (pt_chain op_le op_le pe_int (pe_callB call_lenDA (by rfl) Z_len (by decide +kernel) (pa_cons (pv 0) pa_nil)) pe_int)))))
      (pss_one (ps_ret pe_bl))
      pss_nil)
      (pss_cons (ps_lock (ps_for PassesOwn.never rfl (pi_keys (pv 0)) (pg_name (i := 2) sc_are_stands.nd rfl (Or.inl rfl))
      (pss_one (ps_if (pt_not (pt_val (pe_cal C_is_name (hr.mono (by decide)) (by rfl) (pa_cons (pv 2) pa_nil))))
      (pss_one (ps_ret pe_bl))
      pss_nil))))
      (pss_cons (ps_lock (ps_for PassesOwn.never rfl (pi_values (pv 0)) (pg_name (i := 3) sc_are_stands.nd rfl (Or.inl rfl))
      (pss_one (ps_if (pt_not (pt_val (pe_cal C_is_stand (hr.mono (by decide)) (by rfl) (pa_cons (pv 3) (pa_cons (pv 1) (pa_cons (pv 0) pa_nil))))))
      (pss_one (ps_ret pe_bl))
      pss_nil))))
      (pss_one (ps_ret pe_bl))))), ?_⟩
    have hl : (strK V.ref m).length = l.length := by
      rw [List.length_map]
      have := congrArg List.length hk
      rwa [List.length_map, List.length_map] at this
    have g1 := g.l1
    have g2 := g.l2
    walk_at "go"
    refine x_isiDict (.dict (.inl hd)) ?_
    walk_at "go"
    refine x_nT ?_
    walk_at "go"
    refine x_lenD (.inl hd) ?_
    rw [hl]
    walk_at "go"
    refine x_yes (by omega) ?_
    walk_at "go"
    refine x_nyes (by omega) ?_
    walk_at "go"
    refine x_lock hd trivial fun od => ?_
    walk_at "go"
    refine lpK (kvs := strK V.ref m) (fun i σ H' => ∃ v1, σ = [some (.ref d), some (.int h), v1, none] ∧ L2.Same (upd H d (.frz od (.dK (strK V.ref m)))) H') upd_same ?_ ?_ ?_ ?_
    · exact ⟨none, rfl, L2.Same.refl _⟩
    · exact fun i σ H' _ ⟨_, _, s1⟩ => s1 d _ upd_same
    · rintro i k0 v0 σ H' hi ⟨v1, rfl, s1⟩
      obtain ⟨z, x, rfl, rfl, hlx⟩ := strK_at hi
      have hz : NameS z := g.nm _ (by rw [← hk]; exact List.mem_map.mpr ⟨_, List.mem_of_getElem? hlx, rfl⟩)
      walk_at "go"
      refine x_name hz ?_
      walk_at "go"
      exact ⟨_, rfl, s1⟩
    · rintro σ H1 ⟨v1, rfl, s1⟩
      refine ⟨s1 d _ upd_same, ?_⟩
      have s2 := same_back hd s1
      walk_at "go"
      have hd1 : upd H1 d (.dK (strK V.ref m)) d = some (.dK (strK V.ref m)) := upd_same
      generalize upd H1 d (.dK (strK V.ref m)) = H1 at s2 hd1 ⊢
      refine x_lock hd1 trivial fun oe => ?_
      walk_at "go"
      refine lpV (kvs := strK V.ref m) (fun i σ H' => ∃ v1 v2, σ = [some (.ref d), some (.int h), v1, v2] ∧ L2.Same (upd H1 d (.frz oe (.dK (strK V.ref m)))) H') upd_same ?_ ?_ ?_ ?_
      · exact ⟨_, _, rfl, L2.Same.refl _⟩
      · exact fun i σ H' _ ⟨_, _, _, s1⟩ => s1 d _ upd_same
      · rintro i k0 v0 σ H' hi ⟨v1, v2, rfl, s3⟩
        obtain ⟨z, x, rfl, rfl, hlx⟩ := strK_at hi
        obtain ⟨y, hy, hx⟩ := hp _ _ (List.mem_of_getElem? hlx)
        have hm1 := List.mem_of_getElem? hlx
        have hg := g.sd _ _ hy
        have hx1 : SdAt H1 x y := hx.same s2
        have hx2 : SdAt H' x y := (sd_held hd1 hm1 hx1 hg).same s3
        walk_at "go"
        refine ⟨x, d, h, y, m, rfl, hx2, fun o e => ?_, .inr ⟨oe, s3 _ _ upd_same⟩, by rw [hk]; exact hg, by rw [hk]; exact g.nm, fun H3 s4 => ?_⟩
        · rw [s3 _ _ upd_same] at e
          cases e
        walk_at "go"
        exact ⟨_, _, rfl, s3.trans s4⟩
      · rintro σ H2 ⟨v1, v2, rfl, s3⟩
        refine ⟨s3 d _ upd_same, ?_⟩
        walk_at "go"
        exact q _ (s2.trans (same_back hd1 s3))
end
/-! ### what is new, and tuples -/
/-- what stands in H' and is new since H, or is one of H's tuples -/
def nd (H H' : Hp) : Hp := fun b => match H b with
  | none => H' b
  | some (.tup _) => H' b
  | _ => none
theorem nd_new {H H' : Hp} {b : Addr} (h : H b = none) : nd H H' b = H' b := by
  unfold nd
  rw [h]
theorem nd_tup {H H' : Hp} {b : Addr} {xs : List V} (h : H b = some (.tup xs)) : nd H H' b = H' b := by
  unfold nd
  rw [h]
theorem nd_some {H H' : Hp} {b : Addr} {o : HO} (h : nd H H' b = some o) : (H b = none ∨ ∃ xs, H b = some (.tup xs)) ∧ H' b = some o := by
  unfold nd at h
  cases e : H b with
  | none => rw [e] at h; exact ⟨.inl rfl, h⟩
  | some u =>
    rw [e] at h
    cases u with
    | tup xs => exact ⟨.inr ⟨xs, rfl⟩, h⟩
    | _ => cases h
theorem nd_is {H H' : Hp} {b : Addr} {o : HO} (h : H b = none ∨ ∃ xs, H b = some (.tup xs)) (e : H' b = some o) : nd H H' b = some o := by
  rcases h with h | ⟨xs, h⟩
  · rw [nd_new h]; exact e
  · rw [nd_tup h]; exact e
theorem nd_same {H H' : Hp} : L2.Same (nd H H') H' := fun b o e => (nd_some e).2
/-- later: what is new since a later heap is new since an earlier one -/
theorem nd_mono {H H1 X Y : Hp} (k : ∀ b, H1 b = none ∨ (∃ xs, H1 b = some (.tup xs)) → H b = none ∨ ∃ xs, H b = some (.tup xs)) (s : ∀ b o, (H1 b = none ∨ ∃ xs, H1 b = some (.tup xs)) → X b = some o → Y b = some o) : L2.Same (nd H1 X) (nd H Y) := fun b o e => by
  obtain ⟨h1, h2⟩ := nd_some e
  exact nd_is (k b h1) (s b o h1 h2)
theorem nd_kept {H H1 : Hp} {p : Addr → Prop} (s : ∀ b o, H b = some o → ¬ p b → H1 b = some o) (hp : ∀ b, p b → ∃ o, H1 b = some o ∧ ∀ xs, o ≠ .tup xs) : ∀ b, H1 b = none ∨ (∃ xs, H1 b = some (.tup xs)) → H b = none ∨ ∃ xs, H b = some (.tup xs) := fun b h => by
  cases e : H b with
  | none => exact .inl rfl
  | some o =>
    refine .inr ?_
    by_cases q : p b
    · obtain ⟨u, hu, nt⟩ := hp b q
      rcases h with h | ⟨xs, h⟩
      · rw [h] at hu; cases hu
      · rw [h] at hu; cases hu; exact absurd rfl (nt xs)
    · have := s b o e q
      rcases h with h | ⟨xs, h⟩
      · rw [h] at this; cases this
      · rw [h] at this; cases this; exact ⟨xs, rfl⟩
/-! ### copied, leads -/
/-- {z: d[z] for z in sorted(d)} -/
theorem dc_sorted {K : PySem.W.Frag} {α : Type} [Inhabited α] {f : α → V} {σ : L2.St} {H : Hp} {Qd : Addr → Hp → Prop} {d : Addr} {l : List (Str × α)} {j n : Nat} (hd : Rd H d (.dK (strK f l))) (hnd : (l.map (·.1)).Nodup) (hl : l.length ≤ 100) (hj : j ≠ n) (hn : n < σ.length)
    (h2 : σ[j]? = some (some (.ref d))) (k : ∀ H' D l', L2.Same H H' → H D = none → H' D = some (.dK (strK f l')) → l'.Perm l → sortedS (l'.map (·.1)) = true → Qd D H') :
    rSortDA [.ref d] H fun x H1 => RunL K (fun J H1 => ∀ D, H1 D = none → DcP J (gName n) tYes (tVar n) (tDGet (tVar j) (tVar n)) [n] σ D (Qd D) H1) x H1 := by
  have ek : (strK f l).map (·.1) = (l.map (·.1)).map Sum.inr := by rw [List.map_map, List.map_map]; rfl
  refine ⟨d, _, l.map (·.1), rfl, hd, ek, by rw [List.length_map]; omega, fun ys q hperm hsort hq => runL (SqL.of upd_same) fun D4 hD4 => ?_⟩
  have hq4 : q ≠ D4 := ne_of_none upd_same hD4
  have hD40 : H D4 = none := by rw [upd_ne hq4.symm] at hD4; exact hD4
  have ynd : ys.Nodup := (hperm.nodup_iff).mpr hnd
  have ylen : ys.length = l.length := by rw [hperm.length_eq, List.length_map]
  refine dcL (xs := ys.map V.str) (fun t H' => L2.Same H H' ∧ H' q = some (.lst (ys.map V.str)) ∧ H' D4 = some (.dK (strK f ((ys.take t).map fun z => (z, (l.lookup z).getD default))))) ?_ ?_ ?_ ?_
  · exact ⟨same_upd (same_new hq) hD40, by rw [upd_ne hq4]; exact upd_same, upd_same⟩
  · exact fun t H' _ h => SqL.of h.2.1
  · rintro t x H' hx ⟨s4, hq1, hD41⟩
    rw [List.getElem?_map] at hx
    cases hz : ys[t]? with
    | none => rw [hz] at hx; cases hx
    | some z =>
      rw [hz] at hx
      have ex : V.str z = x := Option.some.inj hx
      subst ex
      have hlt : t < ys.length := (List.getElem?_eq_some_iff.mp hz).1
      have hzm : z ∈ l.map (·.1) := hperm.mem_iff.mp (List.mem_of_getElem? hz)
      obtain ⟨xz, hxz⟩ := lookup_isSome hzm
      refine x_g1 ⟨?_, x_yes1 (x_T (x_var (v := .str z) ?_ (x_dget (x_var (v := .ref d) ?_ (x_var (v := .str z) ?_ (x_getL (l := l) (same_rd s4 hd) hxz ⟨_, Sum.inr z, rfl, hD41, sz_lt (by simp; omega), same_upd s4 hD40, by rw [upd_ne hq4]; exact hq1, ?_⟩))))))⟩
      · show ((σ.set n none).set n (some (.str z))).set n none = σ.set n none
        rw [List.set_set, List.set_set]
      · show ((σ.set n none).set n _)[n]? = _
        rw [List.getElem?_set_self (by rw [List.length_set]; exact hn)]
      · show ((σ.set n none).set n _)[j]? = _
        rw [List.getElem?_set_ne hj.symm, List.getElem?_set_ne hj.symm]
        exact h2
      · show ((σ.set n none).set n _)[n]? = _
        rw [List.getElem?_set_self (by rw [List.length_set]; exact hn)]
      · rw [upd_same, strK_put, putL_new, take_succ_get hz, List.map_append]
        · simp [hxz]
        · rw [List.map_map]
          intro hm
          obtain ⟨z', hz', e'⟩ := List.mem_map.mp hm
          have e2 : z' = z := e'
          subst e2
          obtain ⟨i, hi, he⟩ := List.getElem_of_mem hz'
          have hi2 : i < t := by simp at hi; omega
          have h5 : ys[i]? = some z' := by
            rw [List.getElem_take] at he
            rw [List.getElem?_eq_getElem (by omega), he]
          have := L2.nd_ix ynd h5 hz
          omega
  · rintro H4 ⟨s4, hq1, hD41⟩
    rw [List.length_map, List.take_length] at hD41
    refine k H4 D4 _ s4 hD40 hD41 (table_perm hnd hperm default) ?_
    rw [List.map_map]
    have : ((fun x : Str × α => x.1) ∘ fun z => (z, (l.lookup z).getD default)) = id := rfl
    rw [this, List.map_id]
    exact hsort
/-- the same stand, its steps in order -/
def SdSort : Sd → Sd → Prop
  | .fin, .fin => True
  | .chance l, .chance l' => l'.Perm l ∧ sortedS (l'.map (·.1)) = true
  | .hand k l, .hand k' l' => k' = k ∧ l'.Perm l ∧ sortedS (l'.map (·.1)) = true
  | _, _ => False
def spCopied : Sp := fun vs H Q _ => ∃ (a : Addr) (x : Sd) (h : Int) (ns : List Str), vs = [.ref a] ∧ SdAt H a x ∧ GoodSd h ns x ∧ ∀ H' p x', L2.Same H H' → H p = none → SdAt (nd H H') p x' → SdSort x x' → Q (.ref p) H'
def leadsL : Sd → List Str
  | .fin => []
  | .chance l => l.map (·.2.1)
  | .hand _ l => l.map (·.2)
def spLeads (C : Addr) : Sp := fun vs H Q _ => ∃ (a dx t : Addr) (fs : List (Str × V)) (tab : List (Str × Sd)) (z : Str) (x : Sd) (h : Int) (ns : List Str), vs = [.ref a, .str z] ∧ H a = some (.ins C dx fs) ∧ fs.lookup ("table" : Str) = some (.ref t) ∧ DictOf SdAt H t tab ∧
  tab.lookup z = some x ∧ GoodSd h ns x ∧ ∀ H' p, L2.Same H H' → H p = none → H' p = some (.lst (strsV (leadsL x))) → Q (.ref p) H'
/-- what stands in the dict for a key -/
theorem DictOf.at {α : Type} {R : Hp → Addr → α → Prop} {H : Hp} {d : Addr} {l : List (Str × α)} (h : DictOf R H d l) {z : Str} {x : α} (e : l.lookup z = some x) : ∃ (m : List (Str × Addr)) (a : Addr), H d = some (.dK (strK V.ref m)) ∧ m.lookup z = some a ∧ R H a x := by
  obtain ⟨m, h1, h2, h3⟩ := h.ex
  have hz : z ∈ m.map (·.1) := by
    rw [h2]
    exact List.mem_map.mpr ⟨_, lookup_mem e, rfl⟩
  obtain ⟨a, ha⟩ := lookup_isSome hz
  obtain ⟨y, hy, r⟩ := h3 _ _ (lookup_mem ha)
  rw [e] at hy
  cases hy
  exact ⟨m, a, h1, ha, r⟩
section
variable {P : Program} {w : World} {K : PySem.W.Frag} {mg : Str → Option Value} {base : Heap} {CW : Addr}
theorem ok_copied {f : Addr} {fd : FuncData} (F : Fun K "copied" "copied" s_copied f fd) (Z_len : mg "len" = none) (Z_sorted : mg "sorted" = none) : FnOk P w K mg base CX0 1 f fd ["stand"] spCopied := by
  refine F.ok sc_copied (fun vs H Q E h => ?_) (fun cdv A outer s H vs Q E hr h => ?_)
  · obtain ⟨_, _, _, _, rfl, _⟩ := h
    rfl
  · obtain ⟨a, x, h, ns, rfl, hx, hg, q⟩ := h
    have hu := hu_of hr
    refine ⟨_, (pss_cons (ps_if (pt_cmpR op_eq (pe_ix ix_tup (pv 0) pe_int (fun _ _ => rfl)) pe_str (nomark _))
      (pss_one (ps_ret (pe_tup (pa_cons pe_str pa_nil))))
      pss_nil)
      (pss_cons (ps_set (i := 1) sc_copied.nd rfl (Or.inr rfl) (pe_ix ix_tup (pv 0) (pe_op op_sub (pe_callB call_lenA (by rfl) Z_len (by decide +kernel) (pa_cons (pv 0) pa_nil)) pe_int) (fun _ _ => rfl)))
      (pss_cons (ps_setDc (i := 2) (own := [("step", 3)]) (g := gName 3) (tt := tYes) (by rfl) sc_copied.nd rfl rfl (sw_trueD rfl rfl rfl (by decide +kernel)) (pi_list (pe_callB (call_sortedDA rfl) (by rfl) Z_sorted (by decide +kernel) (pa_cons (pv 1) pa_nil))) (blkOk_by (own := [("step", 3)]) (N := N_copied) (sc := defScope s_copied) (by decide +kernel)) (fun _ _ _ _ _ => (pg_name (i := 3) sc_copied.nd rfl (Or.inl rfl))) (fun _ _ _ _ _ => pts_nil) (fun _ _ _ _ _ => by exact (pv 3)) (fun _ _ _ _ _ => by exact (pe_dget hu (pv 1) (pv 3) (fun _ _ => rfl))))
      (pss_cons (ps_if (pt_cmpR op_eq (pe_ix ix_tup (pv 0) pe_int (fun _ _ => rfl)) pe_str (nomark _))
      (pss_one (ps_ret (pe_tup (pa_cons pe_str (pa_cons (pe_ix ix_tup (pv 0) pe_int (fun _ _ => rfl)) (pa_cons (pv 2) pa_nil))))))
      pss_nil)
      (pss_one (ps_ret (pe_tup (pa_cons pe_str (pa_cons (pv 2) pa_nil))))))))), ?_⟩
    walk_at "go"
    cases x with
    | fin =>
      have ha : H a = some (.tup [.str "end"]) := hx
      refine x_ixt 0 (SqT.of ha) rfl rfl ?_
      walk_at "go"
      refine x_yes rfl ?_
      walk_at "go"
      refine ⟨by decide, fun p hp => ?_⟩
      exact q _ p .fin (same_new hp) hp ((nd_new hp).trans upd_same) trivial
    | chance l =>
      obtain ⟨d, ha, hD⟩ := hx
      obtain ⟨g1, g2, g3, g4⟩ := hg
      obtain ⟨m, hd, hk, hp⟩ := hD.ex
      refine x_ixt 0 (SqT.of ha) rfl rfl ?_
      walk_at "go"
      refine x_no (by decide +kernel) ?_
      walk_at "go"
      refine x_lenT (SqT.of ha) ?_
      walk_at "go"
      refine x_ixt 1 (SqT.of ha) rfl rfl ?_
      walk_at "go"
      have hkl : m.length = l.length := by
        have := congrArg List.length hk
        rwa [List.length_map, List.length_map] at this
      refine dc_sorted (f := V.ref) (l := m) (.inl hd) (by rw [hk]; exact g1) (by omega) (by decide) (by decide : 3 < 4) rfl fun H1 D m' s1 hD1 hD2 hpm hso => ?_
      walk_at "go"
      refine x_ixt 0 (SqT.of (s1 _ _ ha)) rfl rfl ?_
      walk_at "go"
      refine x_no (by decide +kernel) ?_
      walk_at "go"
      refine ⟨sz_le (by simp), fun p hp2 => ?_⟩
      have hpk : (m'.map (·.1)).Perm (l.map (·.1)) := by rw [← hk]; exact hpm.map _
      have nDp : D ≠ p := ne_of_none hD2 hp2
      refine q _ p (.chance ((m'.map (·.1)).map fun z => (z, (l.lookup z).getD default))) (same_upd s1 (s1.free hp2)) (s1.free hp2) ?_ ⟨table_perm g1 hpk default, ?_⟩
      · refine ⟨D, (nd_new (s1.free hp2)).trans upd_same, ⟨m', (nd_new hD1).trans (by rw [upd_ne nDp]; exact hD2), ?_, fun z y hzy => ?_⟩⟩
        · rw [List.map_map]
          have : ((fun x : Str × (Str × Int) => x.1) ∘ fun z => (z, (l.lookup z).getD default)) = id := rfl
          rw [this, List.map_id]
        · obtain ⟨v, hv, hr2⟩ := hp _ _ (hpm.mem_iff.mp hzy)
          refine ⟨v, ?_, (show PairAt _ _ _ from ?_)⟩
          · rw [lookup_perm (table_perm g1 hpk default) g1]
            exact hv
          · refine (nd_tup (show H y = some _ from hr2)).trans ?_
            have hy := s1 _ _ (show H y = some _ from hr2)
            rw [upd_ne (ne_of_none hy hp2)]
            exact hy
      · rw [List.map_map]
        have : ((fun x : Str × (Str × Int) => x.1) ∘ fun z => (z, (l.lookup z).getD default)) = id := rfl
        rw [this, List.map_id]
        exact hso
    | hand k l =>
      obtain ⟨d, ha, hd⟩ := hx
      obtain ⟨_, _, g1, g2, g3, g4⟩ := hg
      refine x_ixt 0 (SqT.of ha) rfl rfl ?_
      walk_at "go"
      refine x_no (by decide +kernel) ?_
      walk_at "go"
      refine x_lenT (SqT.of ha) ?_
      walk_at "go"
      refine x_ixt 2 (SqT.of ha) rfl rfl ?_
      walk_at "go"
      refine dc_sorted (f := V.str) (l := l) (.inl hd) g1 (by omega) (by decide) (by decide : 3 < 4) rfl fun H1 D l' s1 hD1 hD2 hpm hso => ?_
      walk_at "go"
      refine x_ixt 0 (SqT.of (s1 _ _ ha)) rfl rfl ?_
      walk_at "go"
      refine x_yes rfl ?_
      walk_at "go"
      refine x_ixt 1 (SqT.of (s1 _ _ ha)) rfl rfl ?_
      walk_at "go"
      refine ⟨sz_le (by simp), fun p hp2 => ?_⟩
      have nDp : D ≠ p := ne_of_none hD2 hp2
      exact q _ p (.hand k l') (same_upd s1 (s1.free hp2)) (s1.free hp2) ⟨D, (nd_new (s1.free hp2)).trans upd_same, (nd_new hD1).trans (by rw [upd_ne nDp]; exact hD2)⟩ ⟨rfl, hpm, hso⟩
theorem ok_leads {f : Addr} {fd : FuncData} (F : Fun K "leads" "leads" s_leads f fd) (K_Work : Cls K CW) (N1 : NoAttr K CW "table") : FnOk P w K mg base CX0 1 f fd ["work", "stand"] (spLeads CW) := by
  refine F.ok sc_leads (fun vs H Q E h => ?_) (fun cdv A outer s H vs Q E hr h => ?_)
  · obtain ⟨_, _, _, _, _, _, _, _, _, rfl, _⟩ := h
    rfl
  · obtain ⟨a, dx, t, fs, tab, z, x, h, ns, rfl, ha, hf, hT, hz, hg, q⟩ := h
    obtain ⟨m, b, ht, hb, hx⟩ := hT.at hz
    have hu := hu_of hr
    refine ⟨_, (pss_cons (ps_set (i := 2) sc_leads.nd rfl (Or.inr rfl) (pe_dget hu (pe_fld (pv 0) rfl) (pv 1) (fun _ _ => rfl)))
      (pss_cons (ps_if (pt_cmpR op_eq (pe_ix ix_tup (pv 2) pe_int (fun _ _ => rfl)) pe_str (nomark _))
      (pss_one (ps_ret (pe_lst pa_nil)))
      pss_nil)
      (pss_cons (ps_if (pt_cmpR op_eq (pe_ix ix_tup (pv 2) pe_int (fun _ _ => rfl)) pe_str (nomark _))
      (pss_one (ps_ret (pe_lock (pe_lc (own := [("step", 3)]) (g := gName 3) (tt := tYes) (by rfl) sc_leads.nd (pi_keys (pe_ix ix_tup (pv 2) pe_int (fun _ _ => rfl))) (blkOk_by (own := [("step", 3)]) (N := N_leads) (sc := defScope s_leads) (by decide +kernel)) (fun _ _ _ _ _ => (pg_name (i := 3) sc_leads.nd rfl (Or.inl rfl))) (fun _ _ _ _ _ => pts_nil) (fun _ _ _ _ _ => by exact (pe_dget hu (pe_ix (ix_tupK (K := K)) (pv 2) pe_int (fun _ _ => rfl)) (pv 3) (fun _ _ => rfl)))))))
      pss_nil)
      (pss_one (ps_ret (pe_lock (pe_lc (own := [("step", 3)]) (g := gName 3) (tt := tYes) (by rfl) sc_leads.nd (pi_keys (pe_ix ix_tup (pv 2) pe_int (fun _ _ => rfl))) (blkOk_by (own := [("step", 3)]) (N := N_leads) (sc := defScope s_leads) (by decide +kernel)) (fun _ _ _ _ _ => (pg_name (i := 3) sc_leads.nd rfl (Or.inl rfl))) (fun _ _ _ _ _ => pts_nil) (fun _ _ _ _ _ => by exact (pe_ix (ix_tupK (K := K)) (pe_dget hu (pe_ix (ix_tupK (K := K)) (pv 2) pe_int (fun _ _ => rfl)) (pv 3) (fun _ _ => rfl)) pe_int (fun _ _ => rfl)))))))))), ?_⟩
    walk_at "go"
    refine x_fld K_Work N1 ha hf ?_
    walk_at "go"
    refine x_getL (.inl ht) hb ?_
    walk_at "go"
    cases x with
    | fin =>
      have hb1 : H b = some (.tup [.str "end"]) := hx
      refine x_ixt 0 (SqT.of hb1) rfl rfl ?_
      walk_at "go"
      refine x_yes rfl ?_
      walk_at "go"
      refine ⟨by decide, fun p hp => ?_⟩
      exact q _ p (same_new hp) hp upd_same
    | chance l =>
      obtain ⟨d, hb1, hD⟩ := hx
      obtain ⟨g1, g2, g3, g4⟩ := hg
      obtain ⟨m2, hd, hk, hp⟩ := hD.ex
      have hkl : m2.length = l.length := by
        have := congrArg List.length hk
        rwa [List.length_map, List.length_map] at this
      have nd2 : (m2.map (·.1)).Nodup := by rw [hk]; exact g1
      refine x_ixt 0 (SqT.of hb1) rfl rfl ?_
      walk_at "go"
      refine x_no (by decide +kernel) ?_
      walk_at "go"
      refine x_ixt 0 (SqT.of hb1) rfl rfl ?_
      walk_at "go"
      refine x_no (by decide +kernel) ?_
      walk_at "go"
      have nbd : b ≠ d := ne_of hb1 hd (by intro z; cases z)
      refine x_lockE hd trivial fun od => ?_
      have hb2 : (upd H d (.frz od (.dK (strK V.ref m2)))) b = some (.tup [.str "chance", .ref d]) := by rw [upd_ne nbd]; exact hb1
      walk_at "go"
      refine x_ixt 1 (SqT.of hb2) rfl rfl ?_
      refine runK upd_same ?_
      intro D hD
      have hDd : D ≠ d := fun z => by rw [z, upd_same] at hD; cases hD
      have hD0 : H D = none := by rw [upd_ne hDd] at hD; exact hD
      refine lcK (kvs := strK V.ref m2) (fun i H' => L2.Same (upd H d (.frz od (.dK (strK V.ref m2)))) H' ∧ H' D = some (.lst (strsV ((l.take i).map (·.2.1))))) ?_ ?_ ?_ ?_
      · exact ⟨same_new hD, upd_same⟩
      · exact fun i H' _ h => h.1 d _ upd_same
      · rintro i k0 v0 H' hi ⟨s1, hD1⟩
        obtain ⟨z, y, rfl, rfl, hly⟩ := strK_at hi
        have hym := List.mem_of_getElem? hly
        obtain ⟨v, hv, hr2⟩ := hp _ _ hym
        have nyd : y ≠ d := ne_of (show H y = some _ from hr2) hd (by intro z; cases z)
        have hy1 : H' y = some (.tup [.str v.1, .int v.2]) := s1 _ _ (by rw [upd_ne nyd]; exact hr2)
        have hlt : i < m2.length := (List.getElem?_eq_some_iff.mp hly).1
        have hli : l[i]? = some (z, v) := by
          have e1 : (m2.map (·.1))[i]? = some z := by rw [List.getElem?_map, hly]; rfl
          rw [hk, List.getElem?_map] at e1
          cases e2 : l[i]? with
          | none => rw [e2] at e1; cases e1
          | some q2 =>
            rw [e2] at e1
            have e3 : q2.1 = z := Option.some.inj e1
            have e4 := lookup_of g1 (z := q2.1) (x := q2.2) (List.mem_of_getElem? e2)
            rw [e3, hv] at e4
            have e5 := Option.some.inj e4
            rw [← e3, e5]
        walk_at "go"
        refine ⟨rfl, ?_⟩
        walk_at "go"
        refine x_ixt 1 (SqT.of (s1 _ _ hb2)) rfl rfl ?_
        walk_at "go"
        refine x_getL (l := m2) (.inr ⟨od, s1 _ _ upd_same⟩) (lookup_of nd2 hym) ?_
        walk_at "go"
        refine x_ixt 0 (SqT.of hy1) rfl rfl ?_
        refine ⟨_, hD1, sz_lt (by simp; omega), same_upd s1 hD, ?_⟩
        rw [upd_same, take_succ_get hli]
        simp
      · rintro H4 ⟨s1, hD1⟩
        have eL : (strK V.ref m2).length = l.length := by rw [List.length_map]; exact hkl
        rw [eL, List.take_length] at hD1
        refine ⟨s1 d _ upd_same, ?_⟩
        exact q _ D (same_back hd s1) hD0 (by rw [upd_ne hDd]; exact hD1)
    | hand k l =>
      obtain ⟨d, hb1, hd⟩ := hx
      obtain ⟨_, _, g1, g2, g3, g4⟩ := hg
      refine x_ixt 0 (SqT.of hb1) rfl rfl ?_
      walk_at "go"
      refine x_no (by decide +kernel) ?_
      walk_at "go"
      refine x_ixt 0 (SqT.of hb1) rfl rfl ?_
      walk_at "go"
      refine x_yes rfl ?_
      walk_at "go"
      have nbd : b ≠ d := ne_of hb1 hd (by intro z; cases z)
      refine x_lockE hd trivial fun od => ?_
      have hb2 : (upd H d (.frz od (.dK (strK V.str l)))) b = some (.tup [.str "hand", .int k, .ref d]) := by rw [upd_ne nbd]; exact hb1
      walk_at "go"
      refine x_ixt 2 (SqT.of hb2) rfl rfl ?_
      refine runK upd_same ?_
      intro D hD
      have hDd : D ≠ d := fun z => by rw [z, upd_same] at hD; cases hD
      have hD0 : H D = none := by rw [upd_ne hDd] at hD; exact hD
      refine lcK (kvs := strK V.str l) (fun i H' => L2.Same (upd H d (.frz od (.dK (strK V.str l)))) H' ∧ H' D = some (.lst (strsV ((l.take i).map (·.2))))) ?_ ?_ ?_ ?_
      · exact ⟨same_new hD, upd_same⟩
      · exact fun i H' _ h => h.1 d _ upd_same
      · rintro i k0 v0 H' hi ⟨s1, hD1⟩
        obtain ⟨z, y, rfl, rfl, hly⟩ := strK_at hi
        have hym := List.mem_of_getElem? hly
        have hlt : i < l.length := (List.getElem?_eq_some_iff.mp hly).1
        walk_at "go"
        refine ⟨rfl, ?_⟩
        walk_at "go"
        refine x_ixt 2 (SqT.of (s1 _ _ hb2)) rfl rfl ?_
        walk_at "go"
        refine x_getL (l := l) (.inr ⟨od, s1 _ _ upd_same⟩) (lookup_of g1 hym) ?_
        refine ⟨_, hD1, sz_lt (by simp; omega), same_upd s1 hD, ?_⟩
        rw [upd_same, take_succ_get hly]
        simp
      · rintro H4 ⟨s1, hD1⟩
        have eL : (strK V.str l).length = l.length := List.length_map ..
        rw [eL, List.take_length] at hD1
        refine ⟨s1 d _ upd_same, ?_⟩
        exact q _ D (same_back hd s1) hD0 (by rw [upd_ne hDd]; exact hD1)
end
/-! ### is a work ringless -/
def rlStep (ld : Str → List Str) (p : List (Str × Bool) × List Str) (z : Str) : List (Str × Bool) × List Str :=
  if (ld z).all (fun t => (p.1.lookup t).isSome) = true then (putL p.1 z true, p.2) else (p.1, p.2 ++ [z])
def rlPass (ld : Str → List Str) (left : List Str) (st : List (Str × Bool)) : List (Str × Bool) × List Str := left.foldl (rlStep ld) (st, [])
def rlRun (ld : Str → List Str) : Nat → List Str → List (Str × Bool) → List Str
  | 0, left, _ => left
  | n + 1, left, st => if (rlPass ld left st).2.length < left.length then rlRun ld n (rlPass ld left st).2 (rlPass ld left st).1 else (rlPass ld left st).2
def leadOf (tab : List (Str × Sd)) (z : Str) : List Str := ((tab.lookup z).map leadsL).getD []
def ringB (tab : List (Str × Sd)) (ns : List Str) : Bool := decide ((rlRun (leadOf tab) (ns.length + 1) ns []).length = 0)
def spRingless (C : Addr) : Sp := fun vs H Q _ => ∃ (a dx t n : Addr) (fs : List (Str × V)) (tab : List (Str × Sd)) (ns : List Str) (h : Int) (nm : List Str), vs = [.ref a] ∧ H a = some (.ins C dx fs) ∧ fs.lookup ("table" : Str) = some (.ref t) ∧ fs.lookup ("names" : Str) = some (.ref n) ∧
  DictOf SdAt H t tab ∧ H n = some (.tup (strsV ns)) ∧ ns.length ≤ 100 ∧ (∀ z ∈ ns, ∃ x, tab.lookup z = some x ∧ GoodSd h nm x) ∧ ∀ H', L2.Same H H' → Q (.bl (ringB tab ns)) H'
theorem leads_len {h : Int} {nm : List Str} {x : Sd} (g : GoodSd h nm x) : (leadsL x).length ≤ 4 := by
  cases x with
  | fin => exact Nat.zero_le _
  | chance l =>
    show (l.map _).length ≤ 4
    rw [List.length_map]
    exact g.2.2.1
  | hand k l =>
    show (l.map _).length ≤ 4
    rw [List.length_map]
    exact g.2.2.2.2.1
section
variable {P : Program} {w : World} {K : PySem.W.Frag} {mg : Str → Option Value} {base : Heap} {CW : Addr}
theorem ok_is_ringless {f : Addr} {fd : FuncData} (F : Fun K "is_ringless" "is_ringless" s_is_ringless f fd) (K_Work : Cls K CW) (N1 : NoAttr K CW "names") (Z_list : mg "list" = none) (Z_all : mg "all" = none) (Z_len : mg "len" = none)
    (C_leads : Cal P w K mg base 1 "leads" ["work", "stand"] (spLeads CW)) : FnOk P w K mg base CX0 2 f fd ["work"] (spRingless CW) := by
  refine F.ok sc_is_ringless (fun vs H Q E h => ?_) (fun cdv A outer s H vs Q E hr h => ?_)
  · obtain ⟨_, _, _, _, _, _, _, _, _, rfl, _⟩ := h
    rfl
  · obtain ⟨a, dx, t, n, fs, tab, ns, h, nm, rfl, ha, hft, hfn, hT, hn, hlen, hg, q⟩ := h
    have hu := hu_of hr
    refine ⟨_, (pss_cons (ps_set (i := 1) sc_is_ringless.nd rfl (Or.inl rfl) (pe_callTy call_listA (by rfl) Z_list (by decide +kernel) (pa_cons (pe_fld (pv 0) rfl) pa_nil)))
      (pss_cons (ps_set (i := 2) sc_is_ringless.nd rfl (Or.inr rfl) pe_dnewK)
      (pss_cons (ps_set (i := 3) sc_is_ringless.nd rfl (Or.inl rfl) pe_bl)
      (pss_cons (ps_while PassesOwn.never (pt_val (pv 3))
      (pss_cons (ps_set (i := 4) sc_is_ringless.nd rfl (Or.inl rfl) (pe_lst pa_nil))
      (pss_cons (ps_for PassesOwn.never rfl (pi_list (pv 1)) (pg_name (i := 5) sc_is_ringless.nd rfl (Or.inl rfl))
      (pss_one (ps_if (pt_val (pe_callB (cr_all rfl) (by rfl) Z_all (by decide +kernel) (pa_cons (pe_lc (own := [("to", 6)]) (g := gName 6) (tt := tYes) (by rfl) sc_is_ringless.nd (pi_list (pe_cal C_leads (hr.mono (by decide)) (by rfl) (pa_cons (pv 0) (pa_cons (pv 5) pa_nil)))) (blkOk_by (own := [("to", 6)]) (N := N_is_ringless) (sc := defScope s_is_ringless) (by decide +kernel)) (fun _ _ _ _ _ => (pg_name (i := 6) sc_is_ringless.nd rfl (Or.inl rfl))) (fun _ _ _ _ _ => pts_nil) (fun _ _ _ _ _ => by exact (pe_cmp (pc_din hu (pv 6) (pv 2))))) pa_nil)))
      (pss_one (ps_dput hu (pv 2) (pv 5) pe_bl rfl))
      (pss_one (ps_expr (pe_bm PySem.F.plainAttrs_list PySem.F.slot_list_append PySem.F.type_list_append mt_append (pv 4) (pa_cons (pv 5) pa_nil)))))))
      (pss_cons (ps_set (i := 3) sc_is_ringless.nd rfl (Or.inl rfl) (pe_cmpR op_lt (pe_callB call_lenA (by rfl) Z_len (by decide +kernel) (pa_cons (pv 4) pa_nil)) (pe_callB call_lenA (by rfl) Z_len (by decide +kernel) (pa_cons (pv 1) pa_nil)) (nomark _)))
      (pss_one (ps_set (i := 1) sc_is_ringless.nd rfl (Or.inl rfl) (pv 4)))))))
      (pss_one (ps_ret (pe_cmpR op_eq (pe_callB call_lenA (by rfl) Z_len (by decide +kernel) (pa_cons (pv 1) pa_nil)) pe_int (nomark _)))))))), ?_⟩
    walk_at "go"
    refine x_fld K_Work N1 ha hfn ?_
    walk_at "go"
    refine x_listT (SqT.of hn) fun l0 hl0 => ?_
    walk_at "go"
    intro st hst
    have nl0 : l0 ≠ st := ne_of_none upd_same hst
    have hst0 : H st = none := by rw [upd_ne nl0.symm] at hst; exact hst
    walk_at "go"
    refine lpWv (fun m σ H' => ∃ lA g rest name lf stl, σ = [some (.ref a), some (.ref lA), some (.ref st), some (.bl g), rest, name, none] ∧ L2.Same H H' ∧ H lA = none ∧ lA ≠ st ∧ H' lA = some (.lst (strsV lf)) ∧ H' st = some (.dK (strK V.bl stl)) ∧
      (∀ z ∈ lf, z ∈ ns) ∧ lf.length ≤ 100 ∧ stl.length + m * 100 ≤ 10100 ∧ ((g = true ∧ lf.length < m ∧ rlRun (leadOf tab) m lf stl = rlRun (leadOf tab) (ns.length + 1) ns []) ∨ (g = false ∧ lf = rlRun (leadOf tab) (ns.length + 1) ns []))) (m := ns.length + 1) ?_ ?_
    · refine ⟨l0, true, _, _, ns, [], rfl, same_upd (same_new hl0) hst0, hl0, nl0, by rw [upd_ne nl0]; exact upd_same, upd_same, fun z hz => hz, hlen, by simp; omega, .inl ⟨rfl, Nat.lt_succ_self _, rfl⟩⟩
    · rintro m σ H1 ⟨lA, g, rest, name, lf, stl, rfl, s1, hlA, nlA, h1l, h1s, hsub, hlf, hm, hcase⟩
      refine ⟨g, rfl, ?_⟩
      rcases hcase with ⟨rfl, hlt, hR⟩ | ⟨rfl, hR⟩
      · refine x_T ?_
        obtain ⟨m', rfl⟩ : ∃ k, m = k + 1 := ⟨m - 1, by omega⟩
        walk_at "go"
        refine ⟨sz_le (by simp), fun rA hrA => ?_⟩
        have nrl : lA ≠ rA := ne_of_none h1l hrA
        have nrs : st ≠ rA := ne_of_none h1s hrA
        have hrA0 := s1.free hrA
        walk_at "go"
        refine lpL (xs := strsV lf) (fun i σ H' => ∃ name, σ = [some (.ref a), some (.ref lA), some (.ref st), some (.bl true), some (.ref rA), name, none] ∧ L2.Same H H' ∧ H' lA = some (.lst (strsV lf)) ∧
          H' st = some (.dK (strK V.bl (rlPass (leadOf tab) (lf.take i) stl).1)) ∧ H' rA = some (.lst (strsV (rlPass (leadOf tab) (lf.take i) stl).2)) ∧ (rlPass (leadOf tab) (lf.take i) stl).1.length ≤ stl.length + i ∧ (rlPass (leadOf tab) (lf.take i) stl).2.length ≤ i ∧
          ∀ z ∈ (rlPass (leadOf tab) (lf.take i) stl).2, z ∈ ns) (SqL.of (by rw [upd_ne nrl]; exact h1l)) ?_ ?_ ?_ ?_
        · exact ⟨_, rfl, same_upd s1 hrA0, by rw [upd_ne nrl]; exact h1l, by rw [upd_ne nrs]; exact h1s, upd_same, by simp [rlPass], by simp [rlPass], by simp [rlPass]⟩
        · exact fun i σ H' _ ⟨_, _, _, h, _⟩ => SqL.of h
        · rintro i y σ H2 hy ⟨name, rfl, s2, h2l, h2s, h2r, b1, b2, b3⟩
          rw [List.getElem?_map] at hy
          cases hz : lf[i]? with
          | none => rw [hz] at hy; cases hy
          | some z =>
            rw [hz] at hy
            have ex : V.str z = y := Option.some.inj hy
            subst ex
            have hi : i < lf.length := (List.getElem?_eq_some_iff.mp hz).1
            have hzn : z ∈ ns := hsub z (List.mem_of_getElem? hz)
            obtain ⟨x, hx, hgx⟩ := hg z hzn
            have elead : leadOf tab z = leadsL x := by
              unfold leadOf
              rw [hx]
              rfl
            have estep : rlPass (leadOf tab) (lf.take (i + 1)) stl = rlStep (leadOf tab) (rlPass (leadOf tab) (lf.take i) stl) z := by
              unfold rlPass
              rw [take_succ_get hz, List.foldl_append]
              rfl
            rw [estep]
            generalize rlPass (leadOf tab) (lf.take i) stl = pp at h2s h2r b1 b2 b3 ⊢
            obtain ⟨p1, p2⟩ := pp
            walk_at "go"
            refine ⟨a, dx, t, fs, tab, z, x, h, nm, rfl, s2 _ _ ha, hft, hT.same s2, hx, hgx, fun H3 q3 s3 hq3 hq33 => runL (SqL.of hq33) fun D hD => ?_⟩
            have ll := leads_len hgx
            have nqD : q3 ≠ D := ne_of_none hq33 hD
            have hD2 := s3.free hD
            have h3s := s3 _ _ h2s
            have h3r := s3 _ _ h2r
            have h3l := s3 _ _ h2l
            refine lcL (xs := strsV (leadsL x)) (fun j H' => L2.Same H3 H' ∧ H' D = some (.lst ((((leadsL x).take j).map fun y => (p1.lookup y).isSome).map V.bl))) ?_ ?_ ?_ ?_
            · exact ⟨same_new hD, upd_same⟩
            · exact fun j H' _ h => SqL.of (h.1 _ _ hq33)
            · rintro j y H4 hy ⟨s4, hD4⟩
              rw [List.getElem?_map] at hy
              cases hw : (leadsL x)[j]? with
              | none => rw [hw] at hy; cases hy
              | some u =>
                rw [hw] at hy
                have ex : V.str u = y := Option.some.inj hy
                subst ex
                have hj : j < (leadsL x).length := (List.getElem?_eq_some_iff.mp hw).1
                walk_at "go"
                refine ⟨rfl, ?_⟩
                walk_at "go"
                refine x_inD (l := p1) (.inl (s4 _ _ h3s)) ?_
                refine ⟨_, hD4, sz_lt (by simp; omega), same_upd s4 hD, ?_⟩
                rw [upd_same, take_succ_get hw]
                simp
            · rintro H4 ⟨s4, hD4⟩
              rw [List.length_map, List.take_length] at hD4
              have s34 : L2.Same H2 H4 := s3.trans s4
              walk_at "go"
              refine ⟨D, _, rfl, SqL.of hD4, ?_⟩
              have eall : (List.map (fun y => (p1.lookup y).isSome) (leadsL x)).all id = (leadOf tab z).all fun t => (p1.lookup t).isSome := by
                rw [elead, List.all_map]
                rfl
              rw [eall]
              walk_at "go"
              refine x_ite (fun hall => ?_) (fun hall => ?_)
              · have e2 : rlStep (leadOf tab) (p1, p2) z = (putL p1 z true, p2) := if_pos hall
                rw [e2]
                walk_at "go"
                refine x_putL (s34 _ _ h2s) (by have : p1.length ≤ stl.length + i := b1; omega) rfl ?_
                walk_at "go"
                refine ⟨_, rfl, same_upd (s2.trans s34) hst0, by rw [upd_ne nlA]; exact s34 _ _ h2l, upd_same, by rw [upd_ne nrs.symm]; exact s34 _ _ h2r, ?_, Nat.le_succ_of_le b2, b3⟩
                have := putL_len p1 z true
                have b1' : p1.length ≤ stl.length + i := b1
                show (putL p1 z true).length ≤ stl.length + (i + 1)
                omega
              · have e2 : rlStep (leadOf tab) (p1, p2) z = (p1, p2 ++ [z]) := if_neg (by rw [hall]; exact Bool.false_ne_true)
                rw [e2]
                walk_at "go"
                refine x_tyL (SqL.of (s34 _ _ h2r)) ?_
                walk_at "go"
                refine x_app (s34 _ _ h2r) (sz_lt (by have : p2.length ≤ i := b2; simp; omega)) ?_
                walk_at "go"
                refine ⟨_, rfl, same_upd (s2.trans s34) hrA0, by rw [upd_ne nrl]; exact s34 _ _ h2l, by rw [upd_ne nrs]; exact s34 _ _ h2s, by rw [upd_same]; simp, Nat.le_succ_of_le b1, ?_, ?_⟩
                · have b2' : p2.length ≤ i := b2
                  show (p2 ++ [z]).length ≤ i + 1
                  simp
                  omega
                · intro u hu2
                  rcases List.mem_append.mp hu2 with hu2 | hu2
                  · exact b3 u hu2
                  · rw [List.mem_singleton.mp hu2]
                    exact hzn
        · rintro σ H2 ⟨name, rfl, s2, h2l, h2s, h2r, b1, b2, b3⟩
          rw [List.length_map, List.take_length] at h2s h2r b1 b2 b3
          walk_at "go"
          have hR2 : (if (rlPass (leadOf tab) lf stl).2.length < lf.length then rlRun (leadOf tab) m' (rlPass (leadOf tab) lf stl).2 (rlPass (leadOf tab) lf stl).1 else (rlPass (leadOf tab) lf stl).2) = rlRun (leadOf tab) (ns.length + 1) ns [] := hR
          generalize rlPass (leadOf tab) lf stl = pp at h2s h2r b1 b2 b3 hR2
          obtain ⟨p1, p2⟩ := pp
          have ed : decide (((strsV p2).length : Int) < ((strsV lf).length : Int)) = decide (p2.length < lf.length) := decide_eq_decide.mpr (by rw [List.length_map, List.length_map]; omega)
          refine ⟨m', Nat.lt_succ_self _, rA, _, _, _, p2, p1, rfl, s2, hrA0, nrs.symm, h2r, h2s, b3, by have b2' : p2.length ≤ lf.length := b2; omega, by have b1' : p1.length ≤ stl.length + lf.length := b1; omega, ?_⟩
          rw [ed]
          by_cases hlt2 : p2.length < lf.length
          · rw [if_pos hlt2] at hR2
            exact .inl ⟨decide_eq_true hlt2, by omega, hR2⟩
          · rw [if_neg hlt2] at hR2
            exact .inr ⟨decide_eq_false hlt2, hR2⟩
      · refine x_F ?_
        walk_at "go"
        have e : decide (((strsV lf).length : Int) = 0) = ringB tab ns := by
          unfold ringB
          rw [← hR]
          exact decide_eq_decide.mpr (by rw [List.length_map]; omega)
        rw [e]
        exact q _ s1
end
/-! ### a work as an object -/
def wkF (h : Int) (st : Str) (t n e : Addr) (r : Bool) : List (Str × V) := putF "ringless" (.bl r) (putF "ends" (.ref e) (putF "names" (.ref n) (putF "table" (.ref t) (putF "start" (.str st) (putF "hands" (.int h) [])))))
def isFin : Sd → Bool
  | .fin => true
  | _ => false
def finAt (tab : List (Str × Sd)) (z : Str) : Bool := ((tab.lookup z).map isFin).getD false
/-- the same stands, all in order -/
structure TabSort (l l' : List (Str × Sd)) : Prop where
  pm : (l'.map (·.1)).Perm (l.map (·.1))
  so : sortedS (l'.map (·.1)) = true
  sd : ∀ z x', l'.lookup z = some x' → ∃ x, l.lookup z = some x ∧ SdSort x x'
/-- a work stands at p, l its table -/
structure WorkAt (C : Addr) (H : Hp) (p : Addr) (h : Int) (st : Str) (l : List (Str × Sd)) : Prop where
  ex : ∃ dx t n e, H p = some (.ins C dx (wkF h st t n e (ringB l (l.map (·.1))))) ∧ DictOf SdAt H t l ∧ H n = some (.tup (strsV (l.map (·.1)))) ∧ H e = some (.tup (strsV ((l.map (·.1)).filter (finAt l))))
theorem WorkAt.same {C : Addr} {H H' : Hp} {p : Addr} {h : Int} {st : Str} {l : List (Str × Sd)} (w : WorkAt C H p h st l) (s : L2.Same H H') : WorkAt C H' p h st l := by
  obtain ⟨dx, t, n, e, h1, h2, h3, h4⟩ := w.ex
  exact ⟨dx, t, n, e, s _ _ h1, h2.same s, s _ _ h3, s _ _ h4⟩
theorem GoodSd.sort {h : Int} {ns : List Str} {x x' : Sd} (g : GoodSd h ns x) (s : SdSort x x') : GoodSd h ns x' := by
  cases x with
  | fin => cases x' with
    | fin => trivial
    | chance _ => cases s
    | hand _ _ => cases s
  | chance l => cases x' with
    | fin => cases s
    | hand _ _ => cases s
    | chance l' =>
      obtain ⟨g1, g2, g3, g4⟩ := g
      obtain ⟨p, _⟩ := s
      have e := p.length_eq
      exact ⟨(List.Perm.nodup_iff (p.map _)).mpr g1, by omega, by omega, fun q hq => g4 q (p.mem_iff.mp hq)⟩
  | hand k l => cases x' with
    | fin => cases s
    | chance _ => cases s
    | hand k' l' =>
      obtain ⟨g0, g1, g2, g3, g4, g5⟩ := g
      obtain ⟨rfl, p, _⟩ := s
      have e := p.length_eq
      exact ⟨g0, g1, (List.Perm.nodup_iff (p.map _)).mpr g2, by omega, by omega, fun q hq => g5 q (p.mem_iff.mp hq)⟩
theorem GoodSd.perm {h : Int} {ns ns' : List Str} {x : Sd} (g : GoodSd h ns x) (p : ∀ z ∈ ns, z ∈ ns') : GoodSd h ns' x := by
  cases x with
  | fin => trivial
  | chance l => exact ⟨g.1, g.2.1, g.2.2.1, fun q hq => ⟨(g.2.2.2 q hq).1, p _ (g.2.2.2 q hq).2.1, (g.2.2.2 q hq).2.2⟩⟩
  | hand k l => exact ⟨g.1, g.2.1, g.2.2.1, g.2.2.2.1, g.2.2.2.2.1, fun q hq => ⟨(g.2.2.2.2.2 q hq).1, p _ (g.2.2.2.2.2 q hq).2⟩⟩
theorem TabSort.good {h : Int} {l l' : List (Str × Sd)} (g : GoodT h l) (s : TabSort l l') : GoodT h l' where
  nd := (List.Perm.nodup_iff s.pm).mpr g.nd
  l1 := by
    have := s.pm.length_eq
    rw [List.length_map, List.length_map] at this
    have := g.l1
    omega
  l2 := by
    have := s.pm.length_eq
    rw [List.length_map, List.length_map] at this
    have := g.l2
    omega
  nm := fun z hz => g.nm z (s.pm.mem_iff.mp hz)
  sd := fun z x' hz => by
    obtain ⟨x, hx, hs⟩ := s.sd z x' hz
    exact ((g.sd z x hx).sort hs).perm fun z hz => s.pm.mem_iff.mpr hz
theorem pair_not_sd {H : Hp} {b : Addr} {v : Str × Int} {y : Sd} (h1 : PairAt H b v) (h2 : SdAt H b y) : False := by
  have e1 : H b = some (.tup [.str v.1, .int v.2]) := h1
  cases y with
  | fin =>
    rw [show H b = some (.tup [.str "end"]) from h2] at e1
    simp at e1
  | chance l =>
    obtain ⟨d, h3, _⟩ := h2
    rw [h3] at e1
    simp at e1
  | hand k l =>
    obtain ⟨d, h3, _⟩ := h2
    rw [h3] at e1
    simp at e1
theorem sd_wo {H : Hp} {D a : Addr} {x : Sd} {h : Int} {ns : List Str} (h1 : ∀ xs, H D ≠ some (.tup xs)) (h2 : ∀ l : List (Str × Str), l ≠ [] → H D ≠ some (.dK (strK V.str l))) (h3 : ∀ l : List (Str × (Str × Int)), l ≠ [] → ¬ DictOf PairAt H D l)
    (hx : SdAt H a x) (hg : GoodSd h ns x) : SdAt (wo H D) a x := by
  cases x with
  | fin =>
    have ha : H a = some (.tup [.str "end"]) := hx
    have n1 : a ≠ D := fun e => by rw [e] at ha; exact h1 _ ha
    show wo H D a = _
    rw [wo_ne n1]
    exact ha
  | chance l =>
    obtain ⟨d2, ha, hD⟩ := hx
    have hl : l ≠ [] := fun e => by
      rw [e] at hg
      exact absurd hg.2.1 (by decide)
    have n1 : a ≠ D := fun e => by rw [e] at ha; exact h1 _ ha
    have n2 : d2 ≠ D := fun e => by rw [e] at hD; exact h3 _ hl hD
    obtain ⟨m2, g1, g2, g3⟩ := hD.ex
    refine ⟨d2, by rw [wo_ne n1]; exact ha, ⟨m2, by rw [wo_ne n2]; exact g1, g2, fun z b hzb => ?_⟩⟩
    obtain ⟨y, hy, hp⟩ := g3 _ _ hzb
    have hp1 : H b = some (.tup [.str y.1, .int y.2]) := hp
    refine ⟨y, hy, ?_⟩
    have n3 : b ≠ D := fun e => by rw [e] at hp1; exact h1 _ hp1
    show wo H D b = _
    rw [wo_ne n3]
    exact hp1
  | hand k l =>
    obtain ⟨d2, ha, hd⟩ := hx
    have hl : l ≠ [] := fun e => by
      rw [e] at hg
      exact absurd hg.2.2.2.1 (by decide)
    have n1 : a ≠ D := fun e => by rw [e] at ha; exact h1 _ ha
    have n2 : d2 ≠ D := fun e => by rw [e] at hd; exact h2 _ hl hd
    exact ⟨d2, by rw [wo_ne n1]; exact ha, by rw [wo_ne n2]; exact hd⟩
/-- D is a table of stands or is to become one -/
theorem sd_woT {H : Hp} {D a : Addr} {x : Sd} {h : Int} {ns : List Str} {m : List (Str × Addr)} (hd : H D = some (.dK (strK V.ref m))) (hm : ∀ z b, (z, b) ∈ m → ∃ y, SdAt H b y) (hx : SdAt H a x) (hg : GoodSd h ns x) : SdAt (wo H D) a x := by
  refine sd_wo (fun xs e => ?_) (fun l hl e => ?_) (fun l hl hD => ?_) hx hg
  · rw [hd] at e
    cases e
  · rw [hd] at e
    have e1 := HO.dK.inj (Option.some.inj e)
    cases l with
    | nil => exact hl rfl
    | cons p r =>
      cases m with
      | nil => cases e1
      | cons p' r' =>
        have e2 : ((Sum.inr p'.1 : Key), V.ref p'.2) :: strK V.ref r' = ((Sum.inr p.1 : Key), V.str p.2) :: strK V.str r := e1
        injection e2 with e3 _
        injection e3 with _ e4
        cases e4
  · obtain ⟨m2, g1, g2, g3⟩ := hD.ex
    rw [hd] at g1
    have e1 := strK_inj (f := V.ref) (fun a b e => by cases e; rfl) (HO.dK.inj (Option.some.inj g1))
    subst e1
    cases m with
    | nil =>
      cases l with
      | nil => exact hl rfl
      | cons p r => cases g2
    | cons p r =>
      obtain ⟨v, _, hv⟩ := g3 p.1 p.2 List.mem_cons_self
      obtain ⟨y, hy⟩ := hm p.1 p.2 List.mem_cons_self
      exact pair_not_sd hv hy
theorem sd_woI {H : Hp} {D a C dx : Addr} {fs : List (Str × V)} {x : Sd} {h : Int} {ns : List Str} (hd : H D = some (.ins C dx fs)) (hx : SdAt H a x) (hg : GoodSd h ns x) : SdAt (wo H D) a x := by
  refine sd_wo (fun xs e => ?_) (fun l hl e => ?_) (fun l hl hD => ?_) hx hg
  · rw [hd] at e
    cases e
  · rw [hd] at e
    cases e
  · obtain ⟨m2, g1, _⟩ := hD.ex
    rw [hd] at g1
    cases g1
/-- a table without an object's place -/
theorem tab_woI {H : Hp} {D t C dx : Addr} {fs : List (Str × V)} {l : List (Str × Sd)} {h : Int} (hd : H D = some (.ins C dx fs)) (hT : DictOf SdAt H t l) (hg : ∀ z x, l.lookup z = some x → ∃ ns, GoodSd h ns x) : DictOf SdAt (wo H D) t l := by
  obtain ⟨m, h1, h2, h3⟩ := hT.ex
  have n1 : t ≠ D := ne_of h1 hd (by intro z; cases z)
  refine ⟨m, by rw [wo_ne n1]; exact h1, h2, fun z a hza => ?_⟩
  obtain ⟨x, hx, hs⟩ := h3 _ _ hza
  obtain ⟨ns, g⟩ := hg _ _ hx
  exact ⟨x, hx, sd_woI hd hs g⟩
/-- .. and s itself -/
def ndx (H : Hp) (s : Addr) (H' : Hp) : Hp := fun b => if b = s then H' b else nd H H' b
theorem ndx_ne {H H' : Hp} {s b : Addr} (h : b ≠ s) : ndx H s H' b = nd H H' b := if_neg h
theorem ndx_at {H H' : Hp} {s : Addr} : ndx H s H' s = H' s := if_pos rfl
def spWorkInit (C : Addr) : Sp := fun vs H Q _ => ∃ (s d dx : Addr) (h : Int) (st : Str) (l : List (Str × Sd)), vs = [.ref s, .int h, .str st, .ref d] ∧ H s = some (.ins C dx []) ∧ DictOf SdAt H d l ∧ GoodT h l ∧ 1 ≤ h ∧ h ≤ 4 ∧ st ∈ l.map (·.1) ∧
  ∀ H' l', (∀ b o, H b = some o → b ≠ s → H' b = some o) → TabSort l l' → WorkAt C (ndx H s H') s h st l' → Q .non H'
theorem lookup_snoc {α : Type} {l : List (Str × α)} {z y : Str} {x : α} (hz : z ∉ l.map (·.1)) : (l ++ [(z, x)]).lookup y = if y = z then some x else l.lookup y := by
  rw [List.lookup_append]
  by_cases e : y = z
  · subst e
    rw [if_pos rfl, lookup_none hz]
    simp
  · rw [if_neg e]
    cases hl : l.lookup y with
    | some v => rfl
    | none =>
      have e2 : (y == z) = false := by simpa using e
      simp [List.lookup, e2]
section
variable {P : Program} {w : World} {K : PySem.W.Frag} {mg : Str → Option Value} {base : Heap} {CW : Addr}
theorem ok_Work_init {f : Addr} {fd : FuncData} (F : Fun K "__init__" "Work.__init__" s_Work_init f fd) (K_Work : Cls K CW) (N1 : NoAttr K CW "hands") (N2 : NoAttr K CW "start") (N3 : NoAttr K CW "table") (N4 : NoAttr K CW "names") (N5 : NoAttr K CW "ends") (N6 : NoAttr K CW "ringless")
    (Z_sorted : mg "sorted" = none) (Z_tuple : mg "tuple" = none)
    (C_is_integer : Cal P w K mg base 1 "is_integer" ["thing"] (spIsInt K)) (C_is_name : Cal P w K mg base 1 "is_name" ["thing"] (spIsName K)) (C_are_stands : Cal P w K mg base 4 "are_stands" ["thing", "hands"] spAreStands)
    (C_copied : Cal P w K mg base 1 "copied" ["stand"] spCopied) (C_is_ringless : Cal P w K mg base 2 "is_ringless" ["work"] (spRingless CW)) : FnOk P w K mg base CX0 5 f fd ["self", "hands", "start", "stands"] (spWorkInit CW) := by
  refine F.ok sc_Work_init (fun vs H Q E h => ?_) (fun cdv A outer s H vs Q E hr h => ?_)
  · obtain ⟨_, _, _, _, _, _, rfl, _⟩ := h
    rfl
  · obtain ⟨a, d, dx, h, st, l, rfl, ha, hD, g, h1, h4, hst, k⟩ := h
    have hu := hu_of hr
    refine ⟨_, (pss_cons (ps_if (PW.pt (pw_or (pt_not (pt_val (pe_cal C_is_integer (hr.mono (by decide)) (by rfl) (pa_cons (pv 1) pa_nil)))) (pw_or1 (pt_not (pt_chain op_le op_le pe_int (pv 1) pe_int)))))
      (pss_one ps_never)
      pss_nil)
      (pss_cons (ps_if (pt_not (pt_val (pe_cal C_are_stands (hr.mono (by decide)) (by rfl) (pa_cons (pv 3) (pa_cons (pv 1) pa_nil)))))
      (pss_one ps_never)
      pss_nil)
      (pss_cons (ps_if (PW.pt (pw_or (pt_not (pt_val (pe_cal C_is_name (hr.mono (by decide)) (by rfl) (pa_cons (pv 2) pa_nil)))) (pw_or1 (pt_cmp (pc_dnotin hu (pv 2) (pv 3))))))
      (pss_one ps_never)
      pss_nil)
      (pss_cons (ps_fld (pv 0) (pv 1) rfl)
      (pss_cons (ps_fld (pv 0) (pv 2) rfl)
      (pss_cons (ps_fld (pv 0) (pe_dc (own := [("name", 4)]) (g := gName 4) (tt := tYes) (by rfl) sc_Work_init.nd (pi_list (pe_callB (call_sortedDA rfl) (by rfl) Z_sorted (by decide +kernel) (pa_cons (pv 3) pa_nil))) (blkOk_by (own := [("name", 4)]) (N := N_Work_init) (sc := defScope s_Work_init) (by decide +kernel)) (fun _ _ _ _ _ => (pg_name (i := 4) sc_Work_init.nd rfl (Or.inl rfl))) (fun _ _ _ _ _ => pts_nil) (fun _ _ _ _ _ => by exact (pv 4)) (fun _ _ _ _ _ => by exact (pe_cal C_copied (hr.mono (by decide)) (by rfl) (pa_cons (pe_dget hu (pv 3) (pv 4) (fun _ _ => rfl)) pa_nil)))) rfl)
      (pss_cons (ps_fld (pv 0) (pe_callTy call_tupleA (by rfl) Z_tuple (by decide +kernel) (pa_cons (pe_callB (call_sortedDA rfl) (by rfl) Z_sorted (by decide +kernel) (pa_cons (pv 3) pa_nil)) pa_nil)) rfl)
      (pss_cons (ps_fld (pv 0) (pe_callTy call_tupleA (by rfl) Z_tuple (by decide +kernel) (pa_cons (pe_lc (own := [("name", 4)]) (g := gName 4)  (by rfl) sc_Work_init.nd (pi_tup (pe_fld (pv 0) rfl)) (blkOk_by (own := [("name", 4)]) (N := N_Work_init) (sc := defScope s_Work_init) (by decide +kernel)) (fun _ _ _ _ _ => (pg_name (i := 4) sc_Work_init.nd rfl (Or.inl rfl))) (fun _ _ _ _ _ => by exact (pts_one (pt_cmpR op_eq (pe_ix (ix_tupK (K := K)) (pe_dget hu (pe_fldK (K := K) (pv 0) (by rfl)) (pv 4) (fun _ _ => rfl)) pe_int (fun _ _ => rfl)) pe_str (nomark _)))) (fun _ _ _ _ _ => by exact (pv 4))) pa_nil)) rfl)
      (pss_one (ps_fld (pv 0) (pe_cal C_is_ringless (hr.mono (by decide)) (by rfl) (pa_cons (pv 0) pa_nil)) rfl)))))))))), ?_⟩
    walk_at "go"
    refine ⟨_, _, rfl, .int _, ?_⟩
    walk_at "go"
    refine x_nT ?_
    walk_at "go"
    refine x_yes (by omega) ?_
    walk_at "go"
    refine x_nyes (by omega) ?_
    walk_at "go"
    refine ⟨d, h, l, rfl, hD, g, fun H1 s1 => ?_⟩
    walk_at "go"
    refine x_name (g.nm _ hst) ?_
    walk_at "go"
    have hD1 := hD.same s1
    obtain ⟨m, hd, hk, hp⟩ := id hD1.ex
    refine x_ninD (l := m) (.inl hd) ?_
    rw [keyIn (by rw [hk]; exact hst)]
    refine ⟨false, rfl, x_F ?_⟩
    walk_at "go"
    have ha1 := s1 _ _ ha
    have hD0 : DictOf SdAt (wo H1 a) d l := tab_woI ha1 hD1 fun z x hz => ⟨_, g.sd z x hz⟩
    refine x_sf K_Work N1 ha1 (by decide) ?_
    walk_at "go"
    refine x_sf K_Work N2 upd_same (len_put (show ([] : List (Str × V)).length < 999 by decide)) ?_
    rw [upd_upd]
    walk_at "go"
    have sA : L2.Same (wo H1 a) (upd H1 a (.ins CW dx (putF "start" (.str st) (putF "hands" (.int h) [])))) := same_wo (L2.Same.refl _)
    have hA : upd H1 a (.ins CW dx (putF "start" (.str st) (putF "hands" (.int h) []))) a = some (.ins CW dx (putF "start" (.str st) (putF "hands" (.int h) []))) := upd_same
    generalize upd H1 a (.ins CW dx (putF "start" (.str st) (putF "hands" (.int h) []))) = H2 at sA hA ⊢
    have hD2 := hD0.same sA
    obtain ⟨m, hd, hk, hp⟩ := id hD2.ex
    have ek : (strK V.ref m).map (·.1) = (m.map (·.1)).map Sum.inr := by rw [List.map_map, List.map_map]; rfl
    have g2 := g.l2
    have hml : m.length = l.length := by
      have := congrArg List.length hk
      rwa [List.length_map, List.length_map] at this
    refine ⟨d, _, m.map (·.1), rfl, .inl hd, ek, by rw [List.length_map]; omega, fun ys q hperm hsort hq => runL (SqL.of upd_same) fun D hD => ?_⟩
    rw [hk] at hperm
    have hqD : q ≠ D := ne_of_none upd_same hD
    have hDn : H2 D = none := by rw [upd_ne hqD.symm] at hD; exact hD
    have ynd : ys.Nodup := (hperm.nodup_iff).mpr g.nd
    have ylen : ys.length = l.length := by rw [hperm.length_eq, List.length_map]
    refine dcL (xs := ys.map V.str) (fun i H' => L2.Same H2 H' ∧ H' q = some (.lst (ys.map V.str)) ∧ ∃ (l' : List (Str × Sd)) (m' : List (Str × Addr)), H' D = some (.dK (strK V.ref m')) ∧ m'.map (·.1) = ys.take i ∧ l'.map (·.1) = ys.take i ∧
      (∀ z b, (z, b) ∈ m' → ∃ x', l'.lookup z = some x' ∧ SdAt (nd H2 (wo H' D)) b x') ∧ ∀ z x', l'.lookup z = some x' → ∃ x, l.lookup z = some x ∧ SdSort x x') ?_ ?_ ?_ ?_
    · exact ⟨same_upd (same_new hq) hDn, by rw [upd_ne hqD]; exact upd_same, [], [], upd_same, by simp, by simp, by simp, by simp⟩
    · exact fun t H' _ h => SqL.of h.2.1
    · rintro i y H3 hy ⟨s3, hq3, l', m', hD3, km, kl, hm3, hs3⟩
      rw [List.getElem?_map] at hy
      cases hz : ys[i]? with
      | none => rw [hz] at hy; cases hy
      | some z =>
        rw [hz] at hy
        have ex : V.str z = y := Option.some.inj hy
        subst ex
        have hi : i < ys.length := (List.getElem?_eq_some_iff.mp hz).1
        have hzl : z ∈ l.map (·.1) := hperm.mem_iff.mp (List.mem_of_getElem? hz)
        have hzt : z ∉ ys.take i := fun hm => by
          obtain ⟨j, hj, he⟩ := List.getElem_of_mem hm
          have hj2 : j < i := by simp at hj; omega
          have h5 : ys[j]? = some z := by
            rw [List.getElem_take] at he
            rw [List.getElem?_eq_getElem (by omega), he]
          have := L2.nd_ix ynd h5 hz
          omega
        obtain ⟨x, hx⟩ := lookup_isSome hzl
        obtain ⟨m2, b, hd2, hb, hbx⟩ := hD2.at hx
        have gx := g.sd z x hx
        walk_at "go"
        refine ⟨rfl, ?_⟩
        walk_at "go"
        refine x_getL (l := m2) (.inl (s3 _ _ hd2)) hb ?_
        walk_at "go"
        refine ⟨b, x, h, _, rfl, hbx.same s3, gx, fun H4 p x' s4 hp4 hpx hsx => ?_⟩
        have hD4 := s4 _ _ hD3
        have hm4 : ∀ z b, (z, b) ∈ m' → ∃ y, SdAt H4 b y := fun z b hzb => by
          obtain ⟨y, _, hy⟩ := hm3 _ _ hzb
          exact ⟨y, hy.same (nd_same.trans (wo_same.trans s4))⟩
        refine ⟨_, Sum.inr z, rfl, hD4, sz_lt (by rw [List.length_map]; have := congrArg List.length km; simp at this; omega), same_upd (s3.trans s4) hDn, by rw [upd_ne hqD]; exact s4 _ _ hq3, l' ++ [(z, x')], m' ++ [(z, p)], ?_, ?_, ?_, ?_, ?_⟩
        · rw [upd_same, strK_put, putL_new]
          rw [km]
          exact hzt
        · rw [List.map_append, km, take_succ_get hz]
          rfl
        · rw [List.map_append, kl, take_succ_get hz]
          rfl
        · intro y c hyc
          rw [wo_upd]
          rw [lookup_snoc (by rw [kl]; exact hzt)]
          rcases List.mem_append.mp hyc with hyc1 | hyc1
          · have hne : y ≠ z := fun e => by
              subst e
              exact hzt (by rw [← km]; exact List.mem_map.mpr ⟨_, hyc1, rfl⟩)
            obtain ⟨v, hv, hv2⟩ := hm3 _ _ hyc1
            rw [if_neg hne]
            exact ⟨v, hv, hv2.same (nd_mono (fun _ h => h) fun b o _ e => wo_mono s4 b o e)⟩
          · have e := List.mem_singleton.mp hyc1
            injection e with e1 e2
            subst e1 e2
            rw [if_pos rfl]
            exact ⟨x', rfl, hpx.same (nd_mono (nd_kept (p := fun _ => False) (fun b o e _ => s3 b o e) fun b h => h.elim) fun b o h e => by
              have nbD : b ≠ D := fun q => by
                rw [q, hD3] at h
                rcases h with h | ⟨xs, h⟩ <;> cases h
              rw [wo_ne nbD]
              exact e)⟩
        · intro y v hv
          rw [lookup_snoc (by rw [kl]; exact hzt)] at hv
          by_cases e : y = z
          · subst e
            rw [if_pos rfl] at hv
            cases hv
            exact ⟨x, hx, hsx⟩
          · rw [if_neg e] at hv
            exact hs3 y v hv
    · rintro H3 ⟨s3, hq3, l', m', hD3, km, kl, hm3, hs3⟩
      rw [List.length_map, List.take_length] at km kl
      have T : TabSort l l' := ⟨by rw [kl]; exact hperm, by rw [kl]; exact hsort, hs3⟩
      have g' := T.good g
      have hT3 : DictOf SdAt H3 D l' := ⟨m', hD3, by rw [km, kl], fun z b hzb => by
        obtain ⟨v, hv, hv2⟩ := hm3 _ _ hzb
        exact ⟨v, hv, hv2.same (nd_same.trans wo_same)⟩⟩
      have hTN : DictOf SdAt (nd H2 H3) D l' := ⟨m', (nd_new hDn).trans hD3, by rw [km, kl], fun z b hzb => by
        obtain ⟨v, hv, hv2⟩ := hm3 _ _ hzb
        exact ⟨v, hv, hv2.same (nd_mono (fun _ h => h) fun b o _ e => wo_same b o e)⟩⟩
      have ha3 := s3 _ _ hA
      have hT3w : DictOf SdAt (wo H3 a) D l' := tab_woI ha3 hT3 fun z x hz => ⟨_, g'.sd z x hz⟩
      walk_at "go"
      refine x_sf K_Work N3 ha3 (len_put (len_put (show ([] : List (Str × V)).length < 998 by decide))) ?_
      have sB : L2.Same (wo H3 a) (upd H3 a (.ins CW dx (putF "table" (.ref D) (putF "start" (.str st) (putF "hands" (.int h) []))))) := same_wo (L2.Same.refl _)
      have hB : upd H3 a (.ins CW dx (putF "table" (.ref D) (putF "start" (.str st) (putF "hands" (.int h) [])))) a = some (.ins CW dx (putF "table" (.ref D) (putF "start" (.str st) (putF "hands" (.int h) [])))) := upd_same
      generalize upd H3 a (.ins CW dx (putF "table" (.ref D) (putF "start" (.str st) (putF "hands" (.int h) [])))) = H4 at sB hB ⊢
      have hd4 : H4 d = some (.dK (strK V.ref m)) := by
        have nda : d ≠ a := ne_of (s3 _ _ hd) ha3 (by intro z; cases z)
        exact sB _ _ (by rw [wo_ne nda]; exact s3 _ _ hd)
      walk_at "go"
      refine ⟨d, _, m.map (·.1), rfl, .inl hd4, ek, by rw [List.length_map]; omega, fun ys2 q2 hperm2 hsort2 hq2 => ?_⟩
      rw [hk] at hperm2
      have ey : ys2 = ys := sorted_one hsort2 hsort (hperm2.trans hperm.symm)
      rw [ey]
      walk_at "go"
      refine x_tupL (SqL.of upd_same) fun nA hnA => ?_
      have hq2A : q2 ≠ nA := ne_of_none upd_same hnA
      have hnA0 : H4 nA = none := by rw [upd_ne hq2A.symm] at hnA; exact hnA
      have sC : L2.Same H4 (upd (upd H4 q2 (.lst (ys.map V.str))) nA (.tup (ys.map V.str))) := same_upd (same_new hq2) hnA0
      have hC : (upd (upd H4 q2 (.lst (ys.map V.str))) nA (.tup (ys.map V.str))) nA = some (.tup (ys.map V.str)) := upd_same
      generalize upd (upd H4 q2 (.lst (ys.map V.str))) nA (.tup (ys.map V.str)) = H5 at sC hC ⊢
      walk_at "go"
      refine x_sf K_Work N4 (sC _ _ hB) (len_put (len_put (len_put (show ([] : List (Str × V)).length < 997 by decide)))) ?_
      have ha5 := sC _ _ hB
      have nAa : nA ≠ a := ne_of hC ha5 (by intro z; cases z)
      have sD : L2.Same (wo H3 a) (upd H5 a (.ins CW dx (putF "names" (.ref nA) (putF "table" (.ref D) (putF "start" (.str st) (putF "hands" (.int h) [])))))) := same_upd (sB.trans sC) wo_at
      have hDD : upd H5 a (.ins CW dx (putF "names" (.ref nA) (putF "table" (.ref D) (putF "start" (.str st) (putF "hands" (.int h) []))))) a = some (.ins CW dx (putF "names" (.ref nA) (putF "table" (.ref D) (putF "start" (.str st) (putF "hands" (.int h) []))))) := upd_same
      have hN6 : upd H5 a (.ins CW dx (putF "names" (.ref nA) (putF "table" (.ref D) (putF "start" (.str st) (putF "hands" (.int h) []))))) nA = some (.tup (ys.map V.str)) := by rw [upd_ne nAa]; exact hC
      generalize upd H5 a (.ins CW dx (putF "names" (.ref nA) (putF "table" (.ref D) (putF "start" (.str st) (putF "hands" (.int h) []))))) = H6 at sD hDD hN6 ⊢
      have hT6 := hT3w.same sD
      walk_at "go"
      have lkT : ∀ (fs : List (Str × V)), (putF "names" (.ref nA) (putF "table" (.ref D) fs)).lookup ("table" : Str) = some (.ref D) := fun fs => by
        rw [lookup_putF, if_neg (by decide +kernel), lookup_putF, if_pos rfl]
      have lkN : ∀ (fs : List (Str × V)), (putF "names" (.ref nA) fs).lookup ("names" : Str) = some (.ref nA) := fun fs => by
        rw [lookup_putF, if_pos rfl]
      refine x_fld K_Work N4 hDD (lkN _) ?_
      refine runT (SqT.of hN6) ?_
      intro E1 hE1
      refine lcT (xs := ys.map V.str) (fun i H' => L2.Same H6 H' ∧ H' E1 = some (.lst (((ys.take i).filter (finAt l')).map V.str))) ?_ ?_ ?_ ?_
      · exact ⟨same_new hE1, upd_same⟩
      · exact fun i H' _ h => SqT.of (h.1 _ _ hN6)
      · rintro i y H7 hy ⟨s7, hE7⟩
        rw [List.getElem?_map] at hy
        cases hz : ys[i]? with
        | none => rw [hz] at hy; cases hy
        | some z =>
          rw [hz] at hy
          have ex : V.str z = y := Option.some.inj hy
          subst ex
          have hi : i < ys.length := (List.getElem?_eq_some_iff.mp hz).1
          obtain ⟨x', hx'⟩ := lookup_isSome (l := l') (z := z) (by rw [kl]; exact List.mem_of_getElem? hz)
          obtain ⟨m2, b, hd2, hb, hbx⟩ := (hT6.same s7).at hx'
          have efin : finAt l' z = isFin x' := by
            unfold finAt
            rw [hx']
            rfl
          have efil : (ys.take (i + 1)).filter (finAt l') = (ys.take i).filter (finAt l') ++ (if isFin x' = true then [z] else []) := by
            rw [take_succ_get hz, List.filter_append]
            congr 1
            rw [List.filter_cons, efin]
            rfl
          have llen : ((ys.take i).filter (finAt l')).length ≤ 100 := Nat.le_trans (List.length_filter_le _ _) (by rw [List.length_take]; omega)
          rw [efil]
          walk_at "go"
          refine ⟨rfl, ?_⟩
          walk_at "go"
          refine x_fld K_Work N3 (s7 _ _ hDD) (lkT _) ?_
          walk_at "go"
          refine x_getL (l := m2) (.inl hd2) hb ?_
          walk_at "go"
          cases x' with
          | fin =>
            have hb1 : H7 b = some (.tup [.str "end"]) := hbx
            refine x_ixt 0 (SqT.of hb1) rfl rfl ?_
            walk_at "go"
            refine x_yes rfl ?_
            walk_at "go"
            refine ⟨_, hE7, sz_lt (by rw [List.length_map]; omega), same_upd s7 hE1, ?_⟩
            rw [upd_same]
            simp [isFin]
          | chance l2 =>
            obtain ⟨d2, hb1, _⟩ := hbx
            refine x_ixt 0 (SqT.of hb1) rfl rfl ?_
            walk_at "go"
            refine x_no (by decide +kernel) ?_
            refine ⟨s7, ?_⟩
            rw [hE7]
            simp [isFin]
          | hand k2 l2 =>
            obtain ⟨d2, hb1, _⟩ := hbx
            refine x_ixt 0 (SqT.of hb1) rfl rfl ?_
            walk_at "go"
            refine x_no (by decide +kernel) ?_
            refine ⟨s7, ?_⟩
            rw [hE7]
            simp [isFin]
      · rintro H7 ⟨s7, hE7⟩
        rw [List.length_map, List.take_length] at hE7
        walk_at "go"
        refine x_tupL (SqL.of hE7) fun eA heA => ?_
        have s8 : L2.Same H6 (upd H7 eA (.tup ((ys.filter (finAt l')).map V.str))) := s7.trans (same_new heA)
        have hE8 : (upd H7 eA (.tup ((ys.filter (finAt l')).map V.str))) eA = some (.tup ((ys.filter (finAt l')).map V.str)) := upd_same
        generalize upd H7 eA (.tup ((ys.filter (finAt l')).map V.str)) = H8 at s8 hE8 ⊢
        walk_at "go"
        refine x_sf K_Work N5 (s8 _ _ hDD) (len_put (len_put (len_put (len_put (show ([] : List (Str × V)).length < 996 by decide))))) ?_
        have ha8 := s8 _ _ hDD
        have eAa : eA ≠ a := ne_of hE8 ha8 (by intro z; cases z)
        have sE : L2.Same (wo H6 a) (upd H8 a (.ins CW dx (putF "ends" (.ref eA) (putF "names" (.ref nA) (putF "table" (.ref D) (putF "start" (.str st) (putF "hands" (.int h) []))))))) := same_wo s8
        have hE9 : upd H8 a (.ins CW dx (putF "ends" (.ref eA) (putF "names" (.ref nA) (putF "table" (.ref D) (putF "start" (.str st) (putF "hands" (.int h) [])))))) eA = some (.tup ((ys.filter (finAt l')).map V.str)) := by rw [upd_ne eAa]; exact hE8
        have hD9 : upd H8 a (.ins CW dx (putF "ends" (.ref eA) (putF "names" (.ref nA) (putF "table" (.ref D) (putF "start" (.str st) (putF "hands" (.int h) [])))))) a = some (.ins CW dx (putF "ends" (.ref eA) (putF "names" (.ref nA) (putF "table" (.ref D) (putF "start" (.str st) (putF "hands" (.int h) [])))))) := upd_same
        generalize upd H8 a (.ins CW dx (putF "ends" (.ref eA) (putF "names" (.ref nA) (putF "table" (.ref D) (putF "start" (.str st) (putF "hands" (.int h) [])))))) = H9 at sE hE9 hD9 ⊢
        have hT6w : DictOf SdAt (wo H6 a) D l' := tab_woI hDD hT6 fun z x hz => ⟨_, g'.sd z x hz⟩
        have hN9 : H9 nA = some (.tup (ys.map V.str)) := sE _ _ (by rw [wo_ne nAa]; exact hN6)
        walk_at "go"
        refine ⟨a, dx, D, nA, _, l', ys, h, l'.map (·.1), rfl, hD9, by rw [lookup_putF, if_neg (by decide +kernel)]; exact lkT _, by rw [lookup_putF, if_neg (by decide +kernel)]; exact lkN _, hT6w.same sE, hN9, by omega, fun z hz => ?_, fun H10 s10 => ?_⟩
        · obtain ⟨x, hx⟩ := lookup_isSome (l := l') (z := z) (by rw [kl]; exact hz)
          exact ⟨x, hx, g'.sd z x hx⟩
        walk_at "go"
        refine x_sf K_Work N6 (s10 _ _ hD9) (len_put (len_put (len_put (len_put (len_put (show ([] : List (Str × V)).length < 995 by decide)))))) ?_
        have sF : L2.Same (wo H9 a) (upd H10 a (.ins CW dx (wkF h st D nA eA (ringB l' ys)))) := same_wo s10
        have keep : ∀ b o, H b = some o → b ≠ a → (upd H10 a (.ins CW dx (wkF h st D nA eA (ringB l' ys)))) b = some o := fun b o e n => by
          have e1 : wo H1 a b = some o := by rw [wo_ne n]; exact s1 _ _ e
          have e2 := s3 _ _ (sA _ _ e1)
          have e3 : H6 b = some o := sD _ _ (by rw [wo_ne n]; exact e2)
          have e4 : H9 b = some o := sE _ _ (by rw [wo_ne n]; exact e3)
          exact sF _ _ (by rw [wo_ne n]; exact e4)
        have tupI : ∀ b xs, (upd H10 a (.ins CW dx (wkF h st D nA eA (ringB l' ys)))) b = some (.tup xs) → b ≠ a → ndx H a (upd H10 a (.ins CW dx (wkF h st D nA eA (ringB l' ys)))) b = some (.tup xs) := fun b xs e n => by
          rw [ndx_ne n]
          refine nd_is ?_ e
          cases q : H b with
          | none => exact .inl rfl
          | some o =>
            have := keep b o q n
            rw [e] at this
            cases this
            exact .inr ⟨xs, rfl⟩
        refine k _ l' keep T ⟨⟨dx, D, nA, eA, ?_, ?_, ?_, ?_⟩⟩
        · rw [kl, ndx_at]
          exact upd_same
        · refine hTN.same fun b o e => ?_
          obtain ⟨h1, h2⟩ := nd_some e
          have n : b ≠ a := fun q => by
            rw [q, hA] at h1
            rcases h1 with h1 | ⟨xs, h1⟩ <;> cases h1
          rw [ndx_ne n]
          refine nd_is (nd_kept (H1 := H2) (p := fun b => b = a) (fun b o e n => sA _ _ (by rw [wo_ne n]; exact s1 _ _ e)) (fun b (q : b = a) => ⟨_, (congrArg H2 q).trans hA, fun xs z => by cases z⟩) b h1) ?_
          have e3 : H6 b = some o := sD _ _ (by rw [wo_ne n]; exact h2)
          have e4 : H9 b = some o := sE _ _ (by rw [wo_ne n]; exact e3)
          exact sF _ _ (by rw [wo_ne n]; exact e4)
        · rw [kl]
          exact tupI nA _ (sF _ _ (by rw [wo_ne nAa]; exact hN9)) nAa
        · rw [kl]
          exact tupI eA _ (sF _ _ (by rw [wo_ne eAa]; exact hE9)) eAa
end
def kindS : Sd → Str
  | .fin => "end"
  | .chance _ => "chance"
  | .hand _ _ => "hand"
theorem sd_tup {H : Hp} {a : Addr} {x : Sd} (h : SdAt H a x) : ∃ xs, H a = some (.tup xs) ∧ xs[0]? = some (.str (kindS x)) := by
  cases x with
  | fin => exact ⟨_, h, rfl⟩
  | chance l =>
    obtain ⟨d, h1, _⟩ := h
    exact ⟨_, h1, rfl⟩
  | hand k l =>
    obtain ⟨d, h1, _⟩ := h
    exact ⟨_, h1, rfl⟩
theorem kind_fin (x : Sd) : decide (kindS x = "end") = isFin x := by
  cases x with
  | fin => rfl
  | chance l => exact decide_eq_false (by show ¬ (("chance" : Str) = "end"); decide +kernel)
  | hand k l => exact decide_eq_false (by show ¬ (("hand" : Str) = "end"); decide +kernel)
/-! ### a drawn world -/
/-- a dict that is being built: what stands in it does not lean on the dict itself -/
structure DictW {α : Type} (R : Hp → Addr → α → Prop) (H : Hp) (d : Addr) (l : List (Str × α)) : Prop where
  ex : ∃ m : List (Str × Addr), H d = some (.dK (strK V.ref m)) ∧ m.map (·.1) = l.map (·.1) ∧ ∀ z a, (z, a) ∈ m → ∃ x, l.lookup z = some x ∧ R (wo H d) a x
def Mono {α : Type} (R : Hp → Addr → α → Prop) : Prop := ∀ H H' a x, L2.Same H H' → R H a x → R H' a x
theorem monoP : Mono PairAt := fun _ _ _ _ s h => s _ _ h
theorem monoS : Mono SdAt := fun _ _ _ _ s h => h.same s
section
variable {α : Type} {R : Hp → Addr → α → Prop} {H H' : Hp} {d p : Addr} {l : List (Str × α)}
theorem DictW.of (M : Mono R) (h : DictW R H d l) : DictOf R H d l := by
  obtain ⟨m, h1, h2, h3⟩ := h.ex
  refine ⟨m, h1, h2, fun z a hza => ?_⟩
  obtain ⟨x, e, r⟩ := h3 z a hza
  exact ⟨x, e, M _ _ _ _ wo_same r⟩
theorem DictW.same (M : Mono R) (h : DictW R H d l) (s : L2.Same H H') : DictW R H' d l := by
  obtain ⟨m, h1, h2, h3⟩ := h.ex
  refine ⟨m, s _ _ h1, h2, fun z a hza => ?_⟩
  obtain ⟨x, e, r⟩ := h3 z a hza
  exact ⟨x, e, M _ _ _ _ (wo_mono s) r⟩
theorem DictW.nil (h : H d = some (.dK [])) : DictW R H d [] := ⟨[], h, rfl, fun z a hza => by cases hza⟩
theorem DictW.put {m : List (Str × Addr)} (h2 : m.map (·.1) = l.map (·.1)) (h3 : ∀ z a, (z, a) ∈ m → ∃ x, l.lookup z = some x ∧ R (wo H d) a x) {z : Str} {x : α} (hp : R (wo H d) p x) :
    DictW R (upd H d (.dK (strK V.ref (putL m z p)))) d (putL l z x) := by
  refine ⟨putL m z p, upd_same, putL_keys2 h2 z x p, fun y a hya => ?_⟩
  rw [wo_upd, lookup_putL]
  rcases putL_mem hya with e | ⟨hya, hn⟩
  · injection e with e1 e2
    subst e1 e2
    rw [if_pos rfl]
    exact ⟨x, rfl, hp⟩
  · rw [if_neg hn]
    exact h3 y a hya
end
theorem none_of_but {H H' : Hp} {p a : Addr} (b : But p H H') (h : H' a = none) (n : a ≠ p) : H a = none := by
  cases e : H a with
  | none => rfl
  | some o => rw [b a o e n] at h; cases h
theorem sd_frz {H : Hp} {D a : Addr} {o : Obj} {v u : HO} {x : Sd} {h : Int} {ns : List Str} (hd : H D = some (.frz o v)) (hx : SdAt H a x) (hg : GoodSd h ns x) : SdAt (upd H D u) a x := by
  refine (sd_wo (D := D) (fun xs e => ?_) (fun l hl e => ?_) (fun l hl hD => ?_) hx hg).same (same_wo (L2.Same.refl _))
  · rw [hd] at e
    cases e
  · rw [hd] at e
    cases e
  · obtain ⟨m2, g1, _⟩ := hD.ex
    rw [hd] at g1
    cases g1
/-! ### a table of stands, held or not -/
/-- a table of stands, held while it is walked or not -/
structure TabRd (H : Hp) (D : Addr) (l : List (Str × Sd)) : Prop where
  ex : ∃ m : List (Str × Addr), Rd H D (.dK (strK V.ref m)) ∧ m.map (·.1) = l.map (·.1) ∧ ∀ z a, (z, a) ∈ m → ∃ x, l.lookup z = some x ∧ SdAt H a x
theorem TabRd.of {H : Hp} {D : Addr} {l : List (Str × Sd)} (h : DictOf SdAt H D l) : TabRd H D l := by
  obtain ⟨m, h1, h2, h3⟩ := h.ex
  exact ⟨m, .inl h1, h2, h3⟩
theorem TabRd.same {H H' : Hp} {D : Addr} {l : List (Str × Sd)} (h : TabRd H D l) (s : L2.Same H H') : TabRd H' D l := by
  obtain ⟨m, h1, h2, h3⟩ := h.ex
  exact ⟨m, same_rd s h1, h2, fun z a hza => by
    obtain ⟨x, hx, r⟩ := h3 z a hza
    exact ⟨x, hx, r.same s⟩⟩
theorem TabRd.at {H : Hp} {D : Addr} {l : List (Str × Sd)} (h : TabRd H D l) {z : Str} {x : Sd} (e : l.lookup z = some x) : ∃ (m : List (Str × Addr)) (a : Addr), Rd H D (.dK (strK V.ref m)) ∧ m.lookup z = some a ∧ SdAt H a x := by
  obtain ⟨m, h1, h2, h3⟩ := h.ex
  have hz : z ∈ m.map (·.1) := by
    rw [h2]
    exact List.mem_map.mpr ⟨_, lookup_mem e, rfl⟩
  obtain ⟨a, ha⟩ := lookup_isSome hz
  obtain ⟨y, hy, r⟩ := h3 _ _ (lookup_mem ha)
  rw [e] at hy
  cases hy
  exact ⟨m, a, h1, ha, r⟩
theorem TabRd.held {H : Hp} {D : Addr} {l : List (Str × Sd)} {m : List (Str × Addr)} {o : Obj} {h : Int} {ns : List Str} (hd : H D = some (.dK (strK V.ref m))) (hk : m.map (·.1) = l.map (·.1)) (hm : ∀ z a, (z, a) ∈ m → ∃ x, l.lookup z = some x ∧ SdAt H a x) (hg : ∀ z x, l.lookup z = some x → GoodSd h ns x) :
    TabRd (upd H D (.frz o (.dK (strK V.ref m)))) D l := ⟨m, .inr ⟨o, upd_same⟩, hk, fun z a hza => by
  obtain ⟨x, hx, r⟩ := hm z a hza
  exact ⟨x, hx, sd_held hd hza r (hg z x hx)⟩⟩
/-! ### a copy of the stands -/
/-- a stand of what is new since H0, and of tuples -/
def SdN (H0 : Hp) : Hp → Addr → Sd → Prop := fun G a x => SdAt (nd H0 G) a x
theorem monoN (H0 : Hp) : Mono (SdN H0) := fun _ _ _ _ s h => SdAt.same h (nd_mono (fun _ h => h) fun b o _ e => s b o e)
/-- a stand's dict, told by its last item -/
def InD (H : Hp) (a d : Addr) : Prop := ∃ xs, H a = some (.tup (xs ++ [.ref d]))
theorem SdAt.tup {H : Hp} {a : Addr} {x : Sd} (h : SdAt H a x) : ∃ xs, H a = some (.tup xs) := by
  cases x with
  | fin => exact ⟨_, h⟩
  | chance l => obtain ⟨d, h, _⟩ := h; exact ⟨_, h⟩
  | hand k l => obtain ⟨d, h, _⟩ := h; exact ⟨_, h⟩
theorem SdAt.inD {H : Hp} {a d : Addr} {x : Sd} (h : SdAt H a x) (i : InD H a d) : ∃ kvs, H d = some (.dK kvs) := by
  obtain ⟨xs, i⟩ := i
  cases x with
  | fin =>
    have h : H a = some (.tup [.str "end"]) := h
    rw [h] at i
    injection i with i
    injection i with i
    have := congrArg List.getLast? i
    simp at this
  | chance l =>
    obtain ⟨d', h, h2⟩ := h
    rw [h] at i
    injection i with i
    injection i with i
    have := congrArg List.getLast? i
    simp at this
    subst this
    obtain ⟨m, h3, _⟩ := h2.ex
    exact ⟨_, h3⟩
  | hand k l =>
    obtain ⟨d', h, h2⟩ := h
    rw [h] at i
    injection i with i
    injection i with i
    have := congrArg List.getLast? i
    simp at this
    subst this
    exact ⟨_, h2⟩
/-- no stand leans on the dict of another one -/
def SepM (X : Hp) (m : List (Str × Addr)) (l : List (Str × Sd)) : Prop := ∀ z a d, (z, a) ∈ m → InD X a d → ∀ y b u, (y, b) ∈ m → y ≠ z → l.lookup y = some u → SdAt (wo X d) b u
def AtM (X : Hp) (m : List (Str × Addr)) (l : List (Str × Sd)) : Prop := ∀ y b, (y, b) ∈ m → ∃ u, l.lookup y = some u ∧ SdAt X b u
theorem InD.back {X Y : Hp} {a d : Addr} {x : Sd} (h : SdAt X a x) (s : L2.Same X Y) (i : InD Y a d) : InD X a d := by
  obtain ⟨xs, e⟩ := h.tup
  obtain ⟨ys, i⟩ := i
  have := s _ _ e
  rw [i] at this
  injection this with this
  exact ⟨ys, by rw [e, this]⟩
theorem SepM.same {X Y : Hp} {m : List (Str × Addr)} {l : List (Str × Sd)} (at_ : AtM X m l) (sep : SepM X m l) (s : L2.Same X Y) : SepM Y m l := fun z a d hza i y b u hyb hne hu => by
  obtain ⟨v, _, hv⟩ := at_ z a hza
  exact (sep z a d hza (i.back hv s) y b u hyb hne hu).same (wo_mono s)
theorem AtM.same {X Y : Hp} {m : List (Str × Addr)} {l : List (Str × Sd)} (at_ : AtM X m l) (s : L2.Same X Y) : AtM Y m l := fun y b hyb => (at_ y b hyb).imp fun u hu => ⟨hu.1, hu.2.same s⟩
theorem SepM.put {X Y Z : Hp} {m : List (Str × Addr)} {l : List (Str × Sd)} {z : Str} {c : Addr} {x : Sd} (at_ : AtM X m l) (sep : SepM X m l) (s : L2.Same X Y) (nz : z ∉ m.map (·.1)) (hc : SdAt Z c x) (sZ : L2.Same Z Y)
    (n1 : ∀ d kvs, Z d = some (.dK kvs) → X d = none) : SepM Y (putL m z c) (putL l z x) := fun z' a d hza i y b u hyb hne hu => by
  rw [lookup_putL] at hu
  rw [putL_new c nz] at hza hyb
  rcases List.mem_append.mp hza with h1 | h1 <;> rcases List.mem_append.mp hyb with h2 | h2
  · have ny : y ≠ z := fun q => nz (q ▸ List.mem_map_of_mem (f := (·.1)) h2)
    rw [if_neg ny] at hu
    obtain ⟨v, _, hv⟩ := at_ z' a h1
    exact (sep z' a d h1 (i.back hv s) y b u h2 hne hu).same (wo_mono s)
  · have e := List.mem_singleton.mp h2
    injection e with e1 e2
    subst e1 e2
    rw [if_pos rfl] at hu
    cases hu
    obtain ⟨v, _, hv⟩ := at_ z' a h1
    obtain ⟨kvs, hd⟩ := hv.inD (i.back hv s)
    refine hc.same fun b' o e => ?_
    rw [wo_ne (fun q => ?_)]
    · exact sZ _ _ e
    · subst q
      have e4 := sZ _ _ e
      rw [s _ _ hd] at e4
      cases e4
      rw [n1 _ _ e] at hd
      cases hd
  · have e := List.mem_singleton.mp h1
    injection e with e1 e2
    subst e1 e2
    obtain ⟨w, hw, hw2⟩ := at_ y b h2
    rw [if_neg hne, hw] at hu
    cases hu
    obtain ⟨kvs, hd⟩ := hc.inD (i.back hc sZ)
    have h0 := n1 _ _ hd
    exact hw2.same fun b' o e => by rw [wo_ne (ne_of_none e h0)]; exact s _ _ e
  · have e := List.mem_singleton.mp h1
    have e2 := List.mem_singleton.mp h2
    injection e with e1 _
    injection e2 with e2 _
    exact absurd (e2.trans e1.symm) hne
/-- a table whose stands do not lean on one another -/
def DictS (X : Hp) (F : Addr) (l : List (Str × Sd)) : Prop := ∃ m, X F = some (.dK (strK V.ref m)) ∧ m.map (·.1) = l.map (·.1) ∧ AtM X m l ∧ SepM X m l
theorem DictS.of {X : Hp} {F : Addr} {l : List (Str × Sd)} (h : DictS X F l) : DictOf SdAt X F l := by
  obtain ⟨m, h1, h2, h3, _⟩ := h
  exact ⟨m, h1, h2, h3⟩
/-- the same while it is filled -/
def DictWS (H0 H : Hp) (F : Addr) (l : List (Str × Sd)) : Prop := ∃ m, H F = some (.dK (strK V.ref m)) ∧ m.map (·.1) = l.map (·.1) ∧ AtM (nd H0 (wo H F)) m l ∧ SepM (nd H0 (wo H F)) m l
def spCopyL : Sp := fun vs H Q _ => ∃ (D : Addr) (l : List (Str × Sd)) (h : Int) (ns : List Str), vs = [.ref D] ∧ DictOf SdAt H D l ∧ (l.map (·.1)).Nodup ∧ l.length ≤ 200 ∧ (∀ z x, l.lookup z = some x → GoodSd h ns x) ∧
  ∀ H' F, L2.Same H H' → H F = none → DictS (nd H H') F l → Q (.ref F) H'
section
variable {P : Program} {w : World} {K : PySem.W.Frag} {mg : Str → Option Value} {base : Heap} {CW : Addr}
theorem ok_l_copy {f : Addr} {fd : FuncData} (F : Fun K "_law_copy" "_law_copy" s_l_copy f fd) (Z_dict : mg "dict" = none) : FnOk P w K mg base CX0 1 f fd ["_law_stands_here"] spCopyL := by
  refine F.ok sc_l_copy (fun vs H Q E h => ?_) (fun cdv A outer s H vs Q E hr h => ?_)
  · obtain ⟨_, _, _, _, rfl, _⟩ := h
    rfl
  · obtain ⟨D, l, h, ns, rfl, hT, hnd, hl, hg, k⟩ := h
    have hu := hu_of hr
    obtain ⟨m, hd, hk, hm⟩ := id hT.ex
    refine ⟨_, (pss_cons (ps_set (i := 1) sc_l_copy.nd rfl (Or.inl rfl) pe_dnewK)
      (pss_cons (ps_lock (ps_for PassesOwn.never rfl (pi_keys (pv 0)) (pg_name (i := 2) sc_l_copy.nd rfl (Or.inl rfl))
      (pss_cons (ps_set (i := 3) sc_l_copy.nd rfl (Or.inl rfl) (pe_dget hu (pv 0) (pv 2) (fun _ _ => rfl)))
      (pss_one (ps_if (pt_cmpR op_eq (pe_ix ix_tup (pv 3) pe_int (fun _ _ => rfl)) pe_str (nomark _))
      (pss_one (ps_dput hu (pv 1) (pv 2) (pe_tup (pa_cons pe_str (pa_cons (pe_ix ix_tup (pv 3) pe_int (fun _ _ => rfl)) (pa_cons (pe_callTy call_dictA (by rfl) Z_dict (by decide +kernel) (pa_cons (pe_ix ix_tup (pv 3) pe_int (fun _ _ => rfl)) pa_nil)) pa_nil)))) rfl))
      (pss_one (ps_if (pt_cmpR op_eq (pe_ix ix_tup (pv 3) pe_int (fun _ _ => rfl)) pe_str (nomark _))
      (pss_one (ps_dput hu (pv 1) (pv 2) (pe_tup (pa_cons pe_str (pa_cons (pe_callTy call_dictA (by rfl) Z_dict (by decide +kernel) (pa_cons (pe_ix ix_tup (pv 3) pe_int (fun _ _ => rfl)) pa_nil)) pa_nil))) rfl))
      (pss_one (ps_dput hu (pv 1) (pv 2) (pe_tup (pa_cons pe_str pa_nil)) rfl)))))))))
      (pss_one (ps_ret (pv 1))))), ?_⟩
    walk_at "go"
    intro F0 hF
    have nDF : D ≠ F0 := ne_of_none hd hF
    have hd1 : (upd H F0 (.dK [])) D = some (.dK (strK V.ref m)) := by rw [upd_ne nDF]; exact hd
    walk_at "go"
    refine x_lock hd1 trivial fun od => ?_
    have sB : L2.Same (wo H D) (upd (upd H F0 (.dK [])) D (.frz od (.dK (strK V.ref m)))) := fun b o e => by
      obtain ⟨e1, n1⟩ := wo_some e
      rw [upd_ne n1, upd_ne (ne_of_none e1 hF)]
      exact e1
    have hB : (upd (upd H F0 (.dK [])) D (.frz od (.dK (strK V.ref m)))) D = some (.frz od (.dK (strK V.ref m))) := upd_same
    have hFB : (upd (upd H F0 (.dK [])) D (.frz od (.dK (strK V.ref m)))) F0 = some (.dK []) := by rw [upd_ne nDF.symm, upd_same]
    generalize upd (upd H F0 (.dK [])) D (.frz od (.dK (strK V.ref m))) = HB at sB hB hFB ⊢
    walk_at "go"
    refine lpK (kvs := strK V.ref m) (fun i σ H' => ∃ v2 v3 l', σ = [some (.ref D), some (.ref F0), v2, v3] ∧ L2.Same (wo HB F0) H' ∧ DictWS H H' F0 l' ∧ l' = l.take i) hB ?_ ?_ ?_ ?_
    · exact ⟨_, _, [], rfl, wo_same, ⟨[], hFB, rfl, (fun _ _ h => by cases h), (fun _ _ _ h => by cases h)⟩, by simp⟩
    · exact fun i σ H' _ ⟨_, _, _, _, s1, _⟩ => s1 _ _ (by rw [wo_ne nDF]; exact hB)
    · rintro i k0 v0 σ H3 hi ⟨v2, v3, l', rfl, s3, hW, el⟩
      obtain ⟨z, a, rfl, rfl, hla⟩ := strK_at hi
      have hza := List.mem_of_getElem? hla
      obtain ⟨x, hx, hxa⟩ := hm _ _ hza
      have gx := hg _ _ hx
      have nd2 : (m.map (·.1)).Nodup := by rw [hk]; exact hnd
      have hD3 : H3 D = some (.frz od (.dK (strK V.ref m))) := s3 _ _ (by rw [wo_ne nDF]; exact hB)
      have s30 : L2.Same (wo H D) H3 := fun b o e => by
        have e1 := (wo_some e).1
        exact s3 _ _ (by rw [wo_ne (ne_of_none e1 hF)]; exact sB _ _ e)
      have hx0 : SdAt (wo H D) a x := sd_woT hd (fun y c hyc => by
        obtain ⟨v, _, hv⟩ := hm y c hyc
        exact ⟨v, hv⟩) hxa gx
      have hx3 := hx0.same s30
      have keptD : ∀ b, H3 b = none ∨ (∃ xs, H3 b = some (.tup xs)) → H b = none ∨ ∃ xs, H b = some (.tup xs) := nd_kept (p := fun b => b = D) (fun b o e n => s30 b o (by rw [wo_ne n]; exact e)) fun b (q : b = D) => ⟨_, (congrArg H3 q).trans hD3, fun xs z => by cases z⟩
      have hz : (l.map (·.1))[i]? = some z := by rw [← hk, List.getElem?_map, hla]; rfl
      have hzl : l[i]? = some (z, x) := by
        rw [List.getElem?_map] at hz
        cases e2 : l[i]? with
        | none => rw [e2] at hz; cases hz
        | some q2 =>
          rw [e2] at hz
          have e3 : q2.1 = z := Option.some.inj hz
          have e4 := lookup_of hnd (z := q2.1) (x := q2.2) (List.mem_of_getElem? e2)
          rw [e3, hx] at e4
          have e5 := Option.some.inj e4
          rw [← e3, e5]
      have hzt : z ∉ l'.map (·.1) := fun hmz => by
        rw [el, List.map_take] at hmz
        obtain ⟨j, hj, he⟩ := List.getElem_of_mem hmz
        have hj2 : j < i := by simp at hj; omega
        have h5 : (l.map (·.1))[j]? = some z := by
          rw [List.getElem_take] at he
          rw [List.getElem?_eq_getElem (by simp at hj ⊢; omega), he]
        have := L2.nd_ix hnd h5 hz
        omega
      have ll : l'.length ≤ 200 := by rw [el, List.length_take]; omega
      have fin : ∀ (H4 : Hp) (c : Addr) (v2 v3 : Option V) (N : L2.St → Hp → Prop), L2.Same H3 H4 → SdAt (nd H3 H4) c x →
          (∀ l' H5, L2.Same (wo HB F0) H5 → DictWS H H5 F0 l' → l' = l.take (i + 1) → N [some (.ref D), some (.ref F0), v2, v3] H5) → rDputA (.ref F0) (.str z) (.ref c) H4 fun H5 => N [some (.ref D), some (.ref F0), v2, v3] H5 := by
        intro H4 c v2 v3 N s4 hc hN
        obtain ⟨m', m1, m2, m3, m4⟩ := hW
        have hml : m'.length = l'.length := by
          have := congrArg List.length m2
          rwa [List.length_map, List.length_map] at this
        have sX : L2.Same (nd H (wo H3 F0)) (nd H (wo (upd H4 F0 (.dK (strK V.ref (putL m' z c)))) F0)) := by
          rw [wo_upd]
          exact nd_mono (fun _ h => h) fun b o _ e => wo_mono s4 b o e
        have sZ : L2.Same (nd H3 H4) (nd H (wo (upd H4 F0 (.dK (strK V.ref (putL m' z c)))) F0)) := by
          rw [wo_upd]
          refine nd_mono keptD fun b o h e => ?_
          have nb : b ≠ F0 := fun q => by
            rw [q, m1] at h
            rcases h with h | ⟨xs, h⟩ <;> cases h
          rw [wo_ne nb]
          exact e
        refine x_putL (l := m') (x := c) (s4 _ _ m1) (by omega) rfl ?_
        refine hN (putL l' z x) _ (same_upd (s3.trans s4) wo_at) ⟨putL m' z c, upd_same, putL_keys2 m2 z x c, fun y b hyb => ?_, m4.put m3 sX (by rw [m2]; exact hzt) hc sZ fun d kvs e => ?_⟩ ?_
        · rcases putL_mem hyb with e | ⟨h1, h2⟩
          · injection e with e1 e2
            subst e1 e2
            exact ⟨x, by rw [lookup_putL, if_pos rfl], hc.same sZ⟩
          · obtain ⟨u, hu, hu2⟩ := m3 y b h1
            exact ⟨u, by rw [lookup_putL, if_neg h2]; exact hu, hu2.same sX⟩
        · obtain ⟨h1, h2⟩ := nd_some e
          cases e2 : nd H (wo H3 F0) d with
          | none => rfl
          | some o =>
            have e3 := (wo_some (nd_some e2).2).1
            rcases h1 with h1 | ⟨xs, h1⟩
            · rw [e3] at h1; cases h1
            · have := s4 _ _ h1
              rw [h2] at this
              cases this
        · rw [putL_new x hzt, take_succ_get hzl, el]
      walk_at "go"
      refine x_getL (l := m) (.inr ⟨od, hD3⟩) (lookup_of nd2 hza) ?_
      walk_at "go"
      cases x with
      | fin =>
        have ha3 : H3 a = some (.tup [.str "end"]) := hx3
        refine x_ixt 0 (SqT.of ha3) rfl rfl ?_
        walk_at "go"
        refine x_no (by decide +kernel) ?_
        walk_at "go"
        refine x_ixt 0 (SqT.of ha3) rfl rfl ?_
        walk_at "go"
        refine x_no (by decide +kernel) ?_
        walk_at "go"
        refine ⟨by decide, fun c hc => ?_⟩
        walk_at "go"
        exact fin _ c _ _ (fun σ H' => ∃ v2 v3 l', σ = [some (.ref D), some (.ref F0), v2, v3] ∧ L2.Same (wo HB F0) H' ∧ DictWS H H' F0 l' ∧ l' = l.take (i + 1)) (same_new hc) ((nd_new hc).trans upd_same) fun l' H5 g1 g2 g3 => ⟨_, _, l', rfl, g1, g2, g3⟩
      | chance l2 =>
        obtain ⟨d2, ha3, hD2⟩ := hx3
        refine x_ixt 0 (SqT.of ha3) rfl rfl ?_
        walk_at "go"
        refine x_no (by decide +kernel) ?_
        walk_at "go"
        refine x_ixt 0 (SqT.of ha3) rfl rfl ?_
        walk_at "go"
        refine x_yes rfl ?_
        walk_at "go"
        refine x_ixt 1 (SqT.of ha3) rfl rfl ?_
        walk_at "go"
        obtain ⟨m2, g1, g2, g3⟩ := hD2.ex
        refine x_dict (.inl g1) fun c hc => ?_
        walk_at "go"
        refine ⟨sz_le (by simp), fun t ht => ?_⟩
        have nct : c ≠ t := ne_of_none upd_same ht
        have ht3 : H3 t = none := by rw [upd_ne nct.symm] at ht; exact ht
        have s34 : L2.Same H3 (upd (upd H3 c (.dK (strK V.ref m2))) t (.tup [.str "chance", .ref c])) := (same_new hc).trans (same_new ht)
        walk_at "go"
        exact fin _ t _ _ (fun σ H' => ∃ v2 v3 l', σ = [some (.ref D), some (.ref F0), v2, v3] ∧ L2.Same (wo HB F0) H' ∧ DictWS H H' F0 l' ∧ l' = l.take (i + 1)) s34 ⟨c, (nd_new ht3).trans upd_same, ⟨m2, (nd_new hc).trans (by rw [upd_ne nct, upd_same]), g2, fun y e hye => by
          obtain ⟨v, hv, hv2⟩ := g3 y e hye
          exact ⟨v, hv, (nd_tup (show H3 e = some _ from hv2)).trans (s34 _ _ hv2)⟩⟩⟩ fun l' H5 g1 g2 g3 => ⟨_, _, l', rfl, g1, g2, g3⟩
      | hand k2 l2 =>
        obtain ⟨d2, ha3, hD2⟩ := hx3
        refine x_ixt 0 (SqT.of ha3) rfl rfl ?_
        walk_at "go"
        refine x_yes rfl ?_
        walk_at "go"
        refine x_ixt 1 (SqT.of ha3) rfl rfl ?_
        walk_at "go"
        refine x_ixt 2 (SqT.of ha3) rfl rfl ?_
        walk_at "go"
        refine x_dict (.inl hD2) fun c hc => ?_
        walk_at "go"
        refine ⟨sz_le (by simp), fun t ht => ?_⟩
        have nct : c ≠ t := ne_of_none upd_same ht
        have ht3 : H3 t = none := by rw [upd_ne nct.symm] at ht; exact ht
        have s34 : L2.Same H3 (upd (upd H3 c (.dK (strK V.str l2))) t (.tup [.str "hand", .int k2, .ref c])) := (same_new hc).trans (same_new ht)
        walk_at "go"
        exact fin _ t _ _ (fun σ H' => ∃ v2 v3 l', σ = [some (.ref D), some (.ref F0), v2, v3] ∧ L2.Same (wo HB F0) H' ∧ DictWS H H' F0 l' ∧ l' = l.take (i + 1)) s34 ⟨c, (nd_new ht3).trans upd_same, (nd_new hc).trans (by rw [upd_ne nct, upd_same])⟩ fun l' H5 g1 g2 g3 => ⟨_, _, l', rfl, g1, g2, g3⟩
    · rintro σ H3 ⟨v2, v3, l', rfl, s3, hW, el⟩
      have hkl : (strK V.ref m).length = l.length := by
        rw [List.length_map]
        have := congrArg List.length hk
        rwa [List.length_map, List.length_map] at this
      rw [hkl, List.take_length] at el
      subst el
      have hD3 : H3 D = some (.frz od (.dK (strK V.ref m))) := s3 _ _ (by rw [wo_ne nDF]; exact hB)
      refine ⟨hD3, ?_⟩
      walk_at "go"
      obtain ⟨m', m1, m2, m3, m4⟩ := hW
      have sX : L2.Same (nd H (wo H3 F0)) (nd H (upd H3 D (.dK (strK V.ref m)))) := nd_mono (fun _ h => h) fun b o h e => by
        have nb : b ≠ D := fun q => by
          rw [q, hd] at h
          rcases h with h | ⟨xs, h⟩ <;> cases h
        rw [upd_ne nb]
        exact wo_same b o e
      refine k _ F0 (fun b o e => ?_) hF ⟨m', (nd_new hF).trans (by rw [upd_ne nDF.symm]; exact m1), m2, m3.same sX, m4.same m3 sX⟩
      · by_cases hb : b = D
        · subst hb
          rw [hd] at e
          rw [upd_same, e]
        · rw [upd_ne hb]
          exact s3 _ _ (by rw [wo_ne (ne_of_none e hF)]; exact sB _ _ (by rw [wo_ne hb]; exact e))
end
/-! ### a drawn stand -/
def spStand : Sp := fun vs H Q _ => ∃ (p q w : Addr) (h kd : Int) (ns ws : List Str), vs = [.ref p, .ref q, .ref w, .int h, .int kd] ∧ PoolAt H p ∧ H q = some (.lst (strsV ns)) ∧ q ≠ p ∧ H w = some (.lst (strsV ws)) ∧ w ≠ p ∧ 1 ≤ ns.length ∧ ns.length ≤ 1000 ∧ ws.length = 4 ∧ (∀ z ∈ ws, NameS z) ∧
  1 ≤ h ∧ h ≤ 4 ∧ ∀ H' a x, But p H H' → PoolAt H' p → H a = none → SdAt (wo H' p) a x → GoodSd h ns x → Q (.ref a) H'
section
variable {P : Program} {w : World} {K : PySem.W.Frag} {mg : Str → Option Value} {base : Heap}
theorem ok_l_stand {f : Addr} {fd : FuncData} (F : Fun K "_law_stand" "_law_stand" s_l_stand f fd) (Z_range : mg "range" = none) (Z_len : mg "len" = none) (C_draw : Cal P w K mg base 1 "_law_draw" ["_law_pool_here", "_law_many"] spDraw) :
    FnOk P w K mg base CX0 2 f fd ["_law_pool_here", "_law_names", "_law_words_here", "_law_hands", "_law_kind"] spStand := by
  refine F.ok sc_l_stand (fun vs H Q E h => ?_) (fun cdv A outer s H vs Q E hr h => ?_)
  · obtain ⟨_, _, _, _, _, _, _, rfl, _⟩ := h
    rfl
  · obtain ⟨p, q, w, h, kd, ns, ws, rfl, hp, hq, nqp, hw, nwp, n1, n2, w4, hnm, h1, h4, k⟩ := h
    have hu := hu_of hr
    refine ⟨_, (pss_cons (ps_set (i := 5) sc_l_stand.nd rfl (Or.inl rfl) (pe_ix ix_list (pe_lst (pa_cons pe_int (pa_cons pe_int (pa_cons pe_int (pa_cons pe_int (pa_cons pe_int (pa_cons pe_int (pa_cons pe_int (pa_cons pe_int pa_nil))))))))) (pe_cal C_draw (hr.mono (by decide)) (by rfl) (pa_cons (pv 0) (pa_cons pe_int pa_nil))) (fun _ _ => rfl)))
      (pss_cons (ps_set (i := 6) sc_l_stand.nd rfl (Or.inl rfl) (pe_cal C_draw (hr.mono (by decide)) (by rfl) (pa_cons (pv 0) (pa_cons pe_int pa_nil))))
      (pss_cons (ps_set (i := 7) sc_l_stand.nd rfl (Or.inl rfl) (pe_cal C_draw (hr.mono (by decide)) (by rfl) (pa_cons (pv 0) (pa_cons (pv 3) pa_nil))))
      (pss_cons (ps_set (i := 8) sc_l_stand.nd rfl (Or.inl rfl) pe_dnewK)
      (pss_cons (ps_for PassesOwn.never rfl (pi_range1 rfl Z_range (pa_cons (pv 5) pa_nil)) (pg_name (i := 9) sc_l_stand.nd rfl (Or.inl rfl))
      (pss_cons (ps_set (i := 10) sc_l_stand.nd rfl (Or.inl rfl) (pe_ix ix_list (pv 1) (pe_cal C_draw (hr.mono (by decide)) (by rfl) (pa_cons (pv 0) (pa_cons (pe_callB call_lenA (by rfl) Z_len (by decide +kernel) (pa_cons (pv 1) pa_nil)) pa_nil))) (fun _ _ => rfl)))
      (pss_one (ps_if (pt_cmpR op_lt (pv 4) pe_int (nomark _))
      (pss_one (ps_dput hu (pv 8) (pe_ix ix_list (pv 2) (pe_op op_mod (pe_op op_add (pv 6) (pv 9)) pe_int) (fun _ _ => rfl)) (pe_tup (pa_cons (pv 10) (pa_cons (pe_ix ix_list (pe_lst (pa_cons pe_int (pa_cons pe_int (pa_cons pe_int (pa_cons pe_int (pa_cons pe_int (pa_cons pe_int (pa_cons pe_int (pa_cons pe_int pa_nil))))))))) (pe_cal C_draw (hr.mono (by decide)) (by rfl) (pa_cons (pv 0) (pa_cons pe_int pa_nil))) (fun _ _ => rfl)) pa_nil))) rfl))
      (pss_one (ps_dput hu (pv 8) (pe_ix ix_list (pv 2) (pe_op op_mod (pe_op op_add (pv 6) (pv 9)) pe_int) (fun _ _ => rfl)) (pv 10) rfl))))))
      (pss_cons (ps_if (pt_cmpR op_lt (pv 4) pe_int (nomark _))
      (pss_one (ps_ret (pe_tup (pa_cons pe_str (pa_cons (pv 8) pa_nil)))))
      pss_nil)
      (pss_one (ps_ret (pe_tup (pa_cons pe_str (pa_cons (pv 7) (pa_cons (pv 8) pa_nil)))))))))))), ?_⟩
    walk_at "go"
    refine ⟨sz_le (by simp), fun lm hlm => ?_⟩
    have hp0 := hp.new (o := .lst [.int 1, .int 2, .int 2, .int 3, .int 3, .int 2, .int 4, .int 1]) hlm
    walk_at "go"
    refine ⟨p, 8, rfl, hp0, by decide, by decide, fun H1 j b1 p1 j0 j1 => ?_⟩
    have hlm1 := b1 lm _ upd_same (hp.ne hlm)
    obtain ⟨many, hmany, hmm⟩ := pickI [1, 2, 2, 3, 3, 2, 4, 1] j0 j1
    have hm4 : 1 ≤ many ∧ many ≤ 4 := by simp at hmm; omega
    have b01 : But p H H1 := (But.of_same (same_new hlm)).trans b1
    walk_at "go"
    refine x_ixl j.toNat (SqL.of hlm1) (by omega) hmany ?_
    walk_at "go"
    refine ⟨p, 4, rfl, p1, by decide, by decide, fun H2 first b2 p2 f0 f1 => ?_⟩
    walk_at "go"
    refine ⟨p, h, rfl, p2, by omega, by omega, fun H3 hand b3 p3 g0 g1 => ?_⟩
    walk_at "go"
    intro D hD
    have b03 : But p H H3 := (b01.trans b2).trans b3
    have nDp : D ≠ p := p3.ne hD
    have hD0 : H D = none := by
      cases e : H D with
      | none => rfl
      | some o => rw [b03 D o e nDp] at hD; cases hD
    have p4 := p3.new (o := .dK []) hD
    have b04 : But p H (upd H3 D (.dK [])) := b03.new hD
    have hD4 : (upd H3 D (.dK [])) D = some (.dK []) := upd_same
    generalize upd H3 D (.dK []) = H4 at p4 b04 hD4 ⊢
    walk_at "go"
    have word : ∀ i : Nat, ∃ z, (strsV ws)[((first + (i : Int)) % 4).toNat]? = some (.str z) ∧ NameS z := fun i => by
      obtain ⟨z, hz, hz2⟩ := pickS ws (j := (first + (i : Int)) % 4) (by omega) (by rw [w4]; omega)
      exact ⟨z, hz, hnm z (List.mem_of_getElem? hz2)⟩
    by_cases hk : kd < 4
    · refine lpR (fun i σ H' => ∃ v9 v10 l, σ = [some (.ref p), some (.ref q), some (.ref w), some (.int h), some (.int kd), some (.int many), some (.int first), some (.int hand), some (.ref D), v9, v10] ∧ But p H H' ∧ PoolAt H' p ∧ DictW PairAt (wo H' p) D l ∧
        (l.map (·.1)).Nodup ∧ l.length ≤ i ∧ (1 ≤ i → 1 ≤ l.length) ∧ ∀ q ∈ l, NameS q.1 ∧ q.2.1 ∈ ns ∧ 1 ≤ q.2.2 ∧ q.2.2 ≤ 9) ⟨by omega, by omega⟩ ?_ ?_ ?_
      · exact ⟨_, _, [], rfl, b04, p4, .nil (by rw [wo_ne nDp]; exact hD4), List.nodup_nil, Nat.zero_le _, fun e => absurd e (by omega), fun q hq => by cases hq⟩
      · rintro i σ H5 hi ⟨v9, v10, l, rfl, b5, p5, hDW, lnd, ll, l1, lg⟩
        have hq5 := b5 q _ hq nqp
        have hw5 := b5 w _ hw nwp
        walk_at "go"
        refine ⟨p, _, rfl, p5, by rw [List.length_map]; omega, by rw [List.length_map]; omega, fun H6 t b6 p6 t0 t1 => ?_⟩
        have hq6 := b6 q _ hq5 nqp
        obtain ⟨to, hto, hto2⟩ := pickS ns (j := t) t0 (by rw [List.length_map] at t1; exact t1)
        walk_at "go"
        refine x_ixl t.toNat (SqL.of hq6) (by omega) hto ?_
        walk_at "go"
        refine x_yes hk ?_
        walk_at "go"
        refine ⟨sz_le (by simp), fun ln hln => ?_⟩
        have p7 := p6.new (o := .lst [.int 1, .int 2, .int 3, .int 1, .int 2, .int 9, .int 1, .int 5]) hln
        walk_at "go"
        refine ⟨p, 8, rfl, p7, by decide, by decide, fun H8 u b8 p8 u0 u1 => ?_⟩
        have hln8 := b8 ln _ upd_same (p6.ne hln)
        obtain ⟨wt, hwt, hwm⟩ := pickI [1, 2, 3, 1, 2, 9, 1, 5] u0 u1
        have hw9 : 1 ≤ wt ∧ wt ≤ 9 := by simp at hwm; omega
        walk_at "go"
        refine x_ixl u.toNat (SqL.of hln8) (by omega) hwt ?_
        walk_at "go"
        refine ⟨sz_le (by simp), fun pa hpa => ?_⟩
        have b68 : But p H6 H8 := (But.of_same (same_new hln)).trans b8
        have b58 : But p H5 (upd H8 pa (.tup [.str to, .int wt])) := (b6.trans b68).new hpa
        have p9 := p8.new (o := .tup [.str to, .int wt]) hpa
        have npap : pa ≠ p := p8.ne hpa
        have hpa9 : (upd H8 pa (.tup [.str to, .int wt])) pa = some (.tup [.str to, .int wt]) := upd_same
        have b9 := b5.trans b58
        generalize upd H8 pa (.tup [.str to, .int wt]) = H9 at b58 p9 hpa9 b9 ⊢
        obtain ⟨m, m1, m2, m3⟩ := (hDW.same monoP (but_wo b58)).ex
        have hD9 := (wo_some m1).1
        have hw9' := b9 w _ hw nwp
        obtain ⟨z, hz, hzn⟩ := word i
        walk_at "go"
        refine x_ixl ((first + (i : Int)) % 4).toNat (SqL.of hw9') (by omega) hz ?_
        walk_at "go"
        have hml : m.length = l.length := by
          have := congrArg List.length m2
          rwa [List.length_map, List.length_map] at this
        refine x_putL (l := m) (x := pa) hD9 (by omega) rfl ?_
        walk_at "go"
        have npaD : pa ≠ D := ne_of hpa9 hD9 (by intro z; cases z)
        refine ⟨_, _, putL l z (to, wt), rfl, fun b o e n => ?_, p9.upd nDp.symm, ?_, putL_nd _ lnd, Nat.le_trans (putL_len _ _ _) (Nat.succ_le_succ ll), fun _ => putL_pos _ _ _, fun y hy => ?_⟩
        · rw [upd_ne (ne_of_none e hD0)]
          exact b9 b o e n
        · rw [wo_upd_ne nDp]
          exact DictW.put m2 m3 (show PairAt _ _ _ from by
            show wo (wo H9 p) D pa = _
            rw [wo_ne npaD, wo_ne npap]
            exact hpa9)
        · rcases putL_mem hy with rfl | ⟨hy, _⟩
          · exact ⟨hzn, List.mem_of_getElem? hto2, hw9.1, hw9.2⟩
          · exact lg y hy
      · rintro σ H5 ⟨v9, v10, l, rfl, b5, p5, hDW, lnd, ll, l1, lg⟩
        walk_at "go"
        refine x_yes hk ?_
        walk_at "go"
        refine ⟨sz_le (by simp), fun a ha => ?_⟩
        have nap : a ≠ p := p5.ne ha
        have ha0 : H a = none := by
          cases e : H a with
          | none => rfl
          | some o => rw [b5 a o e nap] at ha; cases ha
        refine k _ a (.chance l) (b5.new ha) (p5.new ha) ha0 ⟨D, by rw [wo_ne nap]; exact upd_same, ((hDW.same monoP ?_).of monoP)⟩ ⟨lnd, l1 (by omega), by omega, lg⟩
        rw [wo_upd_ne nap]
        exact same_new (wo_none ha)
    · refine lpR (fun i σ H' => ∃ v9 v10 l, σ = [some (.ref p), some (.ref q), some (.ref w), some (.int h), some (.int kd), some (.int many), some (.int first), some (.int hand), some (.ref D), v9, v10] ∧ But p H H' ∧ PoolAt H' p ∧ H' D = some (.dK (strK V.str l)) ∧
        (l.map (·.1)).Nodup ∧ l.length ≤ i ∧ (1 ≤ i → 1 ≤ l.length) ∧ ∀ q ∈ l, NameS q.1 ∧ q.2 ∈ ns) ⟨by omega, by omega⟩ ?_ ?_ ?_
      · exact ⟨_, _, [], rfl, b04, p4, hD4, List.nodup_nil, Nat.zero_le _, fun e => absurd e (by omega), fun q hq => by cases hq⟩
      · rintro i σ H5 hi ⟨v9, v10, l, rfl, b5, p5, hDW, lnd, ll, l1, lg⟩
        have hq5 := b5 q _ hq nqp
        walk_at "go"
        refine ⟨p, _, rfl, p5, by rw [List.length_map]; omega, by rw [List.length_map]; omega, fun H6 t b6 p6 t0 t1 => ?_⟩
        have hq6 := b6 q _ hq5 nqp
        obtain ⟨to, hto, hto2⟩ := pickS ns (j := t) t0 (by rw [List.length_map] at t1; exact t1)
        walk_at "go"
        refine x_ixl t.toNat (SqL.of hq6) (by omega) hto ?_
        walk_at "go"
        refine x_no hk ?_
        walk_at "go"
        have hw6 := (b5.trans b6) w _ hw nwp
        obtain ⟨z, hz, hzn⟩ := word i
        refine x_ixl ((first + (i : Int)) % 4).toNat (SqL.of hw6) (by omega) hz ?_
        walk_at "go"
        refine x_putL (l := l) (x := to) (b6 D _ hDW nDp) (by omega) rfl ?_
        walk_at "go"
        refine ⟨_, _, putL l z to, rfl, fun b o e n => ?_, p6.upd nDp.symm, upd_same, putL_nd _ lnd, Nat.le_trans (putL_len _ _ _) (Nat.succ_le_succ ll), fun _ => putL_pos _ _ _, fun y hy => ?_⟩
        · rw [upd_ne (ne_of_none e hD0)]
          exact b6 b o (b5 b o e n) n
        · rcases putL_mem hy with rfl | ⟨hy, _⟩
          · exact ⟨hzn, List.mem_of_getElem? hto2⟩
          · exact lg y hy
      · rintro σ H5 ⟨v9, v10, l, rfl, b5, p5, hDW, lnd, ll, l1, lg⟩
        walk_at "go"
        refine x_no hk ?_
        walk_at "go"
        refine ⟨sz_le (by simp), fun a ha => ?_⟩
        have nap : a ≠ p := p5.ne ha
        have nDa : D ≠ a := ne_of_none hDW ha
        have ha0 : H a = none := by
          cases e : H a with
          | none => rfl
          | some o => rw [b5 a o e nap] at ha; cases ha
        exact k _ a (.hand hand l) (b5.new ha) (p5.new ha) ha0 ⟨D, by rw [wo_ne nap]; exact upd_same, by rw [wo_ne nDp, upd_ne nDa]; exact hDW⟩ ⟨g0, g1, lnd, l1 (by omega), by omega, lg⟩
end
/-! ### stands, worths, a world -/
def spStands : Sp := fun vs H Q _ => ∃ (p q : Addr) (h : Int) (rl : Bool) (ns : List Str), vs = [.ref p, .ref q, .int h, .bl rl] ∧ PoolAt H p ∧ H q = some (.lst (strsV ns)) ∧ q ≠ p ∧ 1 ≤ ns.length ∧ ns.length ≤ 1000 ∧ (∀ z ∈ ns, NameS z) ∧ ns.Nodup ∧ 1 ≤ h ∧ h ≤ 4 ∧
  ∀ H' D l, But p H H' → PoolAt H' p → H D = none → DictOf SdAt (wo H' p) D l → l.map (·.1) = ns → (∀ z x, l.lookup z = some x → GoodSd h ns x) → Q (.ref D) H'
section
variable {P : Program} {w : World} {K : PySem.W.Frag} {mg : Str → Option Value} {base : Heap}
theorem ok_l_stands {f : Addr} {fd : FuncData} (F : Fun K "_law_stands" "_law_stands" s_l_stands f fd) (Z_range : mg "range" = none) (Z_len : mg "len" = none) (C_draw : Cal P w K mg base 1 "_law_draw" ["_law_pool_here", "_law_many"] spDraw)
    (C_words : Cal P w K mg base 3 "_law_words" ["_law_pool_here", "_law_many"] spWords) (C_l_stand : Cal P w K mg base 2 "_law_stand" ["_law_pool_here", "_law_names", "_law_words_here", "_law_hands", "_law_kind"] spStand) :
    FnOk P w K mg base CX0 4 f fd ["_law_pool_here", "_law_names", "_law_hands", "_law_ringless"] spStands := by
  refine F.ok sc_l_stands (fun vs H Q E h => ?_) (fun cdv A outer s H vs Q E hr h => ?_)
  · obtain ⟨_, _, _, _, _, rfl, _⟩ := h
    rfl
  · obtain ⟨p, q, h, rl, ns, rfl, hp, hq, nqp, n1, n2, hnm, hnd, h1, h4, k⟩ := h
    have hu := hu_of hr
    refine ⟨_, (pss_cons (ps_set (i := 4) sc_l_stands.nd rfl (Or.inl rfl) (pe_cal C_words (hr.mono (by decide)) (by rfl) (pa_cons (pv 0) (pa_cons pe_int pa_nil))))
      (pss_cons (ps_set (i := 5) sc_l_stands.nd rfl (Or.inl rfl) pe_dnewK)
      (pss_cons (ps_for PassesOwn.never rfl (pi_range1 rfl Z_range (pa_cons (pe_callB call_lenA (by rfl) Z_len (by decide +kernel) (pa_cons (pv 1) pa_nil)) pa_nil)) (pg_name (i := 6) sc_l_stands.nd rfl (Or.inl rfl))
      (pss_cons (ps_set (i := 7) sc_l_stands.nd rfl (Or.inl rfl) pe_int)
      (pss_cons (ps_if (pt_val (pv 3))
      (pss_one (ps_set (i := 7) sc_l_stands.nd rfl (Or.inl rfl) (pe_op op_add (pv 6) pe_int)))
      pss_nil)
      (pss_cons (ps_set (i := 8) sc_l_stands.nd rfl (Or.inl rfl) (pe_cal C_draw (hr.mono (by decide)) (by rfl) (pa_cons (pv 0) (pa_cons pe_int pa_nil))))
      (pss_one (ps_if (PW.pt (pw_or (pt_cmpR op_eq (pv 7) (pe_callB call_lenA (by rfl) Z_len (by decide +kernel) (pa_cons (pv 1) pa_nil)) (nomark _)) (pw_or (pt_cmpR op_eq (pv 8) pe_int (nomark _)) (pw_or1 (PW.pt (pw_and (pt_cmpR op_eq (pv 8) pe_int (nomark _)) (pw_and1 (pt_cmpR op_gt (pv 6) pe_int (nomark _)))))))))
      (pss_one (ps_dput hu (pv 5) (pe_ix ix_list (pv 1) (pv 6) (fun _ _ => rfl)) (pe_tup (pa_cons pe_str pa_nil)) rfl))
      (pss_one (ps_dput hu (pv 5) (pe_ix ix_list (pv 1) (pv 6) (fun _ _ => rfl)) (pe_cal C_l_stand (hr.mono (by decide)) (by rfl) (pa_cons (pv 0) (pa_cons (pe_slice sl_list (pv 1) (po_some (pv 7)) po_none) (pa_cons (pv 4) (pa_cons (pv 2) (pa_cons (pv 8) pa_nil)))))) rfl))))))))
      (pss_one (ps_ret (pv 5)))))), ?_⟩
    walk_at "go"
    refine ⟨p, 4, rfl, hp, by decide, by decide, fun H1 w ws b1 p1 hw0 hw wl wn wd => ?_⟩
    have nwp : w ≠ p := hp.ne hw0
    walk_at "go"
    intro D hD
    have nDp : D ≠ p := p1.ne hD
    have hD0 : H D = none := none_of_but b1 hD nDp
    have hq1 := b1 q _ hq nqp
    have b2 : But p H (upd H1 D (.dK [])) := b1.new hD
    have p2 := p1.new (o := .dK []) hD
    have hq2 : (upd H1 D (.dK [])) q = some (.lst (strsV ns)) := b2 q _ hq nqp
    have hw2 : (upd H1 D (.dK [])) w = some (.lst (strsV ws)) := by rw [upd_ne (ne_of_none hw hD)]; exact hw
    have hD2 : (upd H1 D (.dK [])) D = some (.dK []) := upd_same
    generalize upd H1 D (.dK []) = H2 at b2 p2 hq2 hw2 hD2 ⊢
    walk_at "go"
    refine lpR (fun i σ H' => ∃ v6 v7 v8 l, σ = [some (.ref p), some (.ref q), some (.int h), some (.bl rl), some (.ref w), some (.ref D), v6, v7, v8] ∧ But p (wo H2 D) H' ∧ PoolAt H' p ∧ DictW SdAt (wo H' p) D l ∧
      l.map (·.1) = ns.take i ∧ ∀ z x, l.lookup z = some x → GoodSd h ns x) ⟨by rw [List.length_map]; omega, by rw [List.length_map]; omega⟩ ?_ ?_ ?_
    · exact ⟨_, _, _, [], rfl, fun b o e _ => wo_same b o e, p2, .nil (by rw [wo_ne nDp]; exact hD2), by simp, fun z x e => by cases e⟩
    · rintro i σ H3 hi ⟨v6, v7, v8, l, rfl, b3, p3, hDW, kl, gl⟩
      rw [List.length_map, Int.toNat_natCast] at hi
      have nqD : q ≠ D := ne_of hq2 hD2 (by intro z; cases z)
      have nwD : w ≠ D := ne_of hw2 hD2 (by intro z; cases z)
      have hq3 : H3 q = some (.lst (strsV ns)) := b3 q _ (by rw [wo_ne nqD]; exact hq2) nqp
      have hw3 : H3 w = some (.lst (strsV ws)) := b3 w _ (by rw [wo_ne nwD]; exact hw2) nwp
      have hz : ns[i]? = some ns[i] := List.getElem?_eq_getElem hi
      generalize ns[i] = z at hz
      have hzv : (strsV ns)[i]? = some (.str z) := by rw [List.getElem?_map, hz]; rfl
      have hzt : z ∉ l.map (·.1) := fun hm => by
        rw [kl] at hm
        obtain ⟨j, hj, he⟩ := List.getElem_of_mem hm
        have hj2 : j < i := by simp at hj; omega
        have h5 : ns[j]? = some z := by
          rw [List.getElem_take] at he
          rw [List.getElem?_eq_getElem (by omega), he]
        have := L2.nd_ix hnd h5 hz
        omega
      have ll : l.length ≤ 1000 := by
        have := congrArg List.length kl
        rw [List.length_map, List.length_take] at this
        omega
      -- a stand a that was drawn is stored
      have fin : ∀ (H4 : Hp) (a : Addr) (x : Sd) (v6 v7 v8 : Option V) (N : L2.St → Hp → Prop), But p H3 H4 → PoolAt H4 p → H3 a = none → a ≠ p → SdAt (wo H4 p) a x → GoodSd h ns x →
          (∀ l' H5, But p (wo H2 D) H5 → PoolAt H5 p → DictW SdAt (wo H5 p) D l' → l'.map (·.1) = ns.take (i + 1) → (∀ z x, l'.lookup z = some x → GoodSd h ns x) → N [some (.ref p), some (.ref q), some (.int h), some (.bl rl), some (.ref w), some (.ref D), v6, v7, v8] H5) →
          rDputA (.ref D) (.str z) (.ref a) H4 fun H5 => N [some (.ref p), some (.ref q), some (.int h), some (.bl rl), some (.ref w), some (.ref D), v6, v7, v8] H5 := by
        intro H4 a x v6 v7 v8 N b4 p4 ha nap hx hg hN
        obtain ⟨m, m1, m2, m3⟩ := (hDW.same monoS (but_wo b4)).ex
        have hml : m.length = l.length := by
          have := congrArg List.length m2
          rwa [List.length_map, List.length_map] at this
        refine x_putL (l := m) (x := a) (wo_some m1).1 (by omega) rfl ?_
        refine hN (putL l z x) _ (fun b o e n => ?_) (p4.upd nDp.symm) ?_ ?_ (fun y v hv => ?_)
        · have nbD : b ≠ D := fun e2 => by rw [e2, wo_at] at e; cases e
          rw [upd_ne nbD]
          exact b4 b o (b3 b o e n) n
        · rw [wo_upd_ne nDp]
          refine DictW.put m2 m3 (sd_woT m1 (fun y c hyc => ?_) hx hg)
          obtain ⟨v, _, hv⟩ := m3 y c hyc
          exact ⟨v, hv.same wo_same⟩
        · rw [putL_new x hzt, List.map_append, kl, take_succ_get hz]
          rfl
        · rw [lookup_putL] at hv
          by_cases e : y = z
          · rw [if_pos e] at hv
            cases hv
            exact hg
          · rw [if_neg e] at hv
            exact gl y v hv
      have endB : ∀ (H4 : Hp), But p H3 H4 → PoolAt H4 p → ∀ (v7 v8 : Option V) (N : L2.St → Hp → Prop) (r : VK) (b c : L2.St → Hp → Prop),
          (∀ l' H5, But p (wo H2 D) H5 → PoolAt H5 p → DictW SdAt (wo H5 p) D l' → l'.map (·.1) = ns.take (i + 1) → (∀ z x, l'.lookup z = some x → GoodSd h ns x) → N [some (.ref p), some (.ref q), some (.int h), some (.bl rl), some (.ref w), some (.ref D), some (.int i), v7, v8] H5) →
          sDPut (tVar 5) (tOp (rIxL K) (tVar 1) (tVar 6)) (tTup (tCons (tC (.str "end")) tNil)) ⟨N, r, b, c⟩ [some (.ref p), some (.ref q), some (.int h), some (.bl rl), some (.ref w), some (.ref D), some (.int i), v7, v8] H4 := by
        intro H4 b4 p4 v7 v8 N r b c hN
        walk_at "go"
        refine ⟨by decide, fun a ha => ?_⟩
        have nap : a ≠ p := p4.ne ha
        walk_at "go"
        refine x_ixl i (SqL.of (b4.new ha q _ hq3 nqp)) rfl hzv ?_
        refine fin _ a .fin _ _ _ N (b4.new ha) (p4.new ha) (none_of_but b4 ha nap) nap ?_ trivial hN
        show wo (upd H4 a _) p a = _
        rw [wo_ne nap]
        exact upd_same
      have standB : ∀ (H4 : Hp), But p H3 H4 → PoolAt H4 p → ∀ (lo kd : Int), 0 ≤ lo → lo < ns.length → ∀ (N : L2.St → Hp → Prop) (r : VK) (b c : L2.St → Hp → Prop),
          (∀ l' H5, But p (wo H2 D) H5 → PoolAt H5 p → DictW SdAt (wo H5 p) D l' → l'.map (·.1) = ns.take (i + 1) → (∀ z x, l'.lookup z = some x → GoodSd h ns x) → N [some (.ref p), some (.ref q), some (.int h), some (.bl rl), some (.ref w), some (.ref D), some (.int i), some (.int lo), some (.int kd)] H5) →
          sDPut (tVar 5) (tOp (rIxL K) (tVar 1) (tVar 6)) (tCall spStand [] E0 (tCons (tVar 0) (tCons (tSl (rSlL K) (tVar 1) (tPart (tVar 7)) tNoPart) (tCons (tVar 4) (tCons (tVar 2) (tCons (tVar 8) tNil)))))) ⟨N, r, b, c⟩
            [some (.ref p), some (.ref q), some (.int h), some (.bl rl), some (.ref w), some (.ref D), some (.int i), some (.int lo), some (.int kd)] H4 := by
        intro H4 b4 p4 lo kd lo0 lo1 N r b c hN
        have hq4 := b4 q _ hq3 nqp
        have hw4 := b4 w _ hw3 nwp
        walk_at "go"
        refine x_slL (SqL.of hq4) fun sA hsA => ?_
        rw [cut_from lo0 (by rw [List.length_map]; omega), ← List.map_drop]
        have nsp : sA ≠ p := p4.ne hsA
        have b5 := b4.new (o := .lst (strsV (ns.drop lo.toNat))) hsA
        have p5 := p4.new (o := .lst (strsV (ns.drop lo.toNat))) hsA
        walk_at "go"
        refine ⟨p, sA, w, h, kd, ns.drop lo.toNat, ws, rfl, p5, upd_same, nsp, by rw [upd_ne (ne_of_none hw4 hsA)]; exact hw4, nwp, by rw [List.length_drop]; omega, by rw [List.length_drop]; omega, wl, wn, h1, h4, fun H6 a x b6 p6 ha hx hg => ?_⟩
        have b56 := b5.trans b6
        have nap : a ≠ p := fun e => by
          obtain ⟨ms, e1, _⟩ := p5
          rw [e, e1] at ha
          cases ha
        walk_at "go"
        refine x_ixl i (SqL.of (b56 q _ hq3 nqp)) rfl hzv ?_
        exact fin _ a x _ _ _ N b56 p6 (none_of_but b5 ha nap) nap hx (hg.perm fun z hz => List.mem_of_mem_drop hz) hN
      walk_at "go"
      refine x_ite (fun hrl => ?_) (fun hrl => ?_)
      all_goals walk_at "go"
      all_goals
        refine ⟨p, 8, rfl, p3, by decide, by decide, fun H4 kd b4 p4 k0 k1 => ?_⟩
        have hq4 := b4 q _ hq3 nqp
        have hw4 := b4 w _ hw3 nwp
        walk_at "go"
      all_goals
        refine x_dec (fun hlow => ?_) (fun hlow => ?_)
        focus exact x_T (endB H4 b4 p4 _ _ _ _ _ _ fun l' H5 g1 g2 g3 g4 g5 => ⟨_, _, _, l', rfl, g1, g2, g3, g4, g5⟩)
        walk_at "go"
        refine x_dec (fun hk0 => ?_) (fun hk0 => ?_)
        focus exact x_T (endB H4 b4 p4 _ _ _ _ _ _ fun l' H5 g1 g2 g3 g4 g5 => ⟨_, _, _, l', rfl, g1, g2, g3, g4, g5⟩)
        walk_at "go"
        refine x_dec (fun hk1 => ?_) (fun hk1 => ?_)
        focus
          walk_at "go"
          refine x_dec (fun hk2 => ?_) (fun hk2 => ?_)
          focus
            exact endB H4 b4 p4 _ _ _ _ _ _ fun l' H5 g1 g2 g3 g4 g5 => ⟨_, _, _, l', rfl, g1, g2, g3, g4, g5⟩
          exact standB H4 b4 p4 _ _ (by rw [List.length_map] at hlow; omega) (by rw [List.length_map] at hlow; omega) _ _ _ _ fun l' H5 g1 g2 g3 g4 g5 => ⟨_, _, _, l', rfl, g1, g2, g3, g4, g5⟩
        refine x_F ?_
        exact standB H4 b4 p4 _ _ (by rw [List.length_map] at hlow; omega) (by rw [List.length_map] at hlow; omega) _ _ _ _ fun l' H5 g1 g2 g3 g4 g5 => ⟨_, _, _, l', rfl, g1, g2, g3, g4, g5⟩
    · rintro σ H3 ⟨v6, v7, v8, l, rfl, b3, p3, hDW, kl, gl⟩
      rw [List.length_map, Int.toNat_natCast, List.take_length] at kl
      walk_at "go"
      exact k H3 D l (fun b o e n => b3 b o (by rw [wo_ne (ne_of_none e hD0)]; exact b2 b o e n) n) p3 hD0 (hDW.of monoS) kl gl
end
/-! ### worths, the whole world, its copy -/
def spWorthsL : Sp := fun vs H Q _ => ∃ (p D : Addr) (l : List (Str × Sd)), vs = [.ref p, .ref D] ∧ PoolAt H p ∧ DictOf SdAt (wo H p) D l ∧ (l.map (·.1)).Nodup ∧ l.length ≤ 200 ∧
  ∀ H' W wl, But p H H' → PoolAt H' p → H W = none → H' W = some (.dK (strK V.int wl)) → wl.map (·.1) = (l.map (·.1)).filter (finAt l) → (∀ q ∈ wl, -99 ≤ q.2 ∧ q.2 ≤ 99) → Q (.ref W) H'
/-- the world's list -/
structure WorldAt (H : Hp) (p W D G : Addr) (h : Int) (st : Str) (l : List (Str × Sd)) (wl : List (Str × Int)) (e : Int) : Prop where
  at_ : H W = some (.lst [.int h, .str st, .ref D, .ref G, .int e])
  tab : DictOf SdAt (wo H p) D l
  good : GoodT h l
  h1 : 1 ≤ h
  h4 : h ≤ 4
  st : st ∈ l.map (·.1)
  wt : H G = some (.dK (strK V.int wl))
  wk : wl.map (·.1) = (l.map (·.1)).filter (finAt l)
  wb : ∀ q ∈ wl, -99 ≤ q.2 ∧ q.2 ≤ 99
  e1 : -99 ≤ e
  e2 : e ≤ 99
  side : Side e wl
def spWorld : Sp := fun vs H Q _ => ∃ (p : Addr) (most : Int) (rl : Bool), vs = [.ref p, .int most, .bl rl] ∧ PoolAt H p ∧ 2 ≤ most ∧ most ≤ 60 ∧
  ∀ H' W D G h st l wl e, But p H H' → PoolAt H' p → H W = none → H D = none → H G = none → W ≠ p → G ≠ p → WorldAt H' p W D G h st l wl e → (l.length : Int) ≤ most → Q (.ref W) H'
section
variable {P : Program} {w : World} {K : PySem.W.Frag} {mg : Str → Option Value} {base : Heap} {CW : Addr}
theorem ok_l_worths {f : Addr} {fd : FuncData} (F : Fun K "_law_worths" "_law_worths" s_l_worths f fd) (C_draw : Cal P w K mg base 1 "_law_draw" ["_law_pool_here", "_law_many"] spDraw) :
    FnOk P w K mg base CX0 2 f fd ["_law_pool_here", "_law_stands_here"] spWorthsL := by
  refine F.ok sc_l_worths (fun vs H Q E h => ?_) (fun cdv A outer s H vs Q E hr h => ?_)
  · obtain ⟨_, _, _, rfl, _⟩ := h
    rfl
  · obtain ⟨p, D, l, rfl, hp, hT, hnd, hl, k⟩ := h
    have hu := hu_of hr
    obtain ⟨m, hd0, hk, hm⟩ := id hT.ex
    obtain ⟨hd, nDp⟩ := wo_some hd0
    refine ⟨_, (pss_cons (ps_set (i := 2) sc_l_worths.nd rfl (Or.inl rfl) (pe_ix ix_list (pe_lst (pa_cons pe_int (pa_cons pe_int (pa_cons pe_int (pa_cons pe_int pa_nil))))) (pe_cal C_draw (hr.mono (by decide)) (by rfl) (pa_cons (pv 0) (pa_cons pe_int pa_nil))) (fun _ _ => rfl)))
      (pss_cons (ps_set (i := 3) sc_l_worths.nd rfl (Or.inl rfl) pe_dnewK)
      (pss_cons (ps_lock (ps_for PassesOwn.never rfl (pi_keys (pv 1)) (pg_name (i := 4) sc_l_worths.nd rfl (Or.inl rfl))
      (pss_one (ps_if (pt_cmpR op_eq (pe_ix ix_tup (pe_dget hu (pv 1) (pv 4) (fun _ _ => rfl)) pe_int (fun _ _ => rfl)) pe_str (nomark _))
      (pss_one (ps_dput hu (pv 3) (pv 4) (pe_op op_sub (pe_cal C_draw (hr.mono (by decide)) (by rfl) (pa_cons (pv 0) (pa_cons (pe_op op_add (pe_op op_mulA pe_int (pv 2)) pe_int) pa_nil))) (pv 2)) rfl))
      pss_nil))))
      (pss_one (ps_ret (pv 3)))))), ?_⟩
    walk_at "go"
    refine ⟨sz_le (by simp), fun lm hlm => ?_⟩
    have hp0 := hp.new (o := .lst [.int 1, .int 3, .int 9, .int 99]) hlm
    walk_at "go"
    refine ⟨p, 4, rfl, hp0, by decide, by decide, fun H1 j b1 p1 j0 j1 => ?_⟩
    have hlm1 := b1 lm _ upd_same (hp.ne hlm)
    obtain ⟨rc, hrc, hrm⟩ := pickI [1, 3, 9, 99] j0 j1
    have hr99 : 1 ≤ rc ∧ rc ≤ 99 := by simp at hrm; omega
    have b01 : But p H H1 := (But.of_same (same_new hlm)).trans b1
    walk_at "go"
    refine x_ixl j.toNat (SqL.of hlm1) (by omega) hrc ?_
    walk_at "go"
    intro W hW
    have nWp : W ≠ p := p1.ne hW
    have hW0 : H W = none := none_of_but b01 hW nWp
    have b2 : But p H (upd H1 W (.dK [])) := b01.new hW
    have p2 := p1.new (o := .dK []) hW
    have hW2 : (upd H1 W (.dK [])) W = some (.dK []) := upd_same
    generalize upd H1 W (.dK []) = H2 at b2 p2 hW2 ⊢
    have hd2 := b2 D _ hd nDp
    have nDW : D ≠ W := fun e => by rw [e, hW0] at hd; cases hd
    walk_at "go"
    refine x_lock hd2 trivial fun od => ?_
    walk_at "go"
    refine lpK (kvs := strK V.ref m) (fun i σ H' => ∃ v4 wl, σ = [some (.ref p), some (.ref D), some (.int rc), some (.ref W), v4] ∧ But p (wo (upd H2 D (.frz od (.dK (strK V.ref m)))) W) H' ∧ PoolAt H' p ∧ H' W = some (.dK (strK V.int wl)) ∧
      wl.map (·.1) = ((l.map (·.1)).take i).filter (finAt l) ∧ ∀ q ∈ wl, -99 ≤ q.2 ∧ q.2 ≤ 99) upd_same ?_ ?_ ?_ ?_
    · exact ⟨_, [], rfl, fun b o e _ => wo_same b o e, p2.upd nDp.symm, by rw [upd_ne nDW.symm]; exact hW2, by simp, fun q hq => by cases hq⟩
    · exact fun i σ H' _ ⟨_, _, _, b, _⟩ => b D _ (by rw [wo_ne nDW]; exact upd_same) nDp
    · rintro i k0 v0 σ H3 hi ⟨v4, wl, rfl, b3, p3, hW3, kw, bw⟩
      obtain ⟨z, a, rfl, rfl, hla⟩ := strK_at hi
      have hza := List.mem_of_getElem? hla
      obtain ⟨x, hx, hxa⟩ := hm _ _ hza
      obtain ⟨xs, hxs0, hxs1⟩ := sd_tup hxa
      obtain ⟨hxs, nap⟩ := wo_some hxs0
      have nd2 : (m.map (·.1)).Nodup := by rw [hk]; exact hnd
      have hD3 : H3 D = some (.frz od (.dK (strK V.ref m))) := b3 D _ (by rw [wo_ne nDW]; exact upd_same) nDp
      have naD : a ≠ D := ne_of hxs hd (by intro z; cases z)
      have naW : a ≠ W := fun e => by rw [e, hW0] at hxs; cases hxs
      have ha3 : H3 a = some (.tup xs) := b3 a _ (by rw [wo_ne naW, upd_ne naD]; exact b2 a _ hxs nap) nap
      have hz : (l.map (·.1))[i]? = some z := by rw [← hk, List.getElem?_map, hla]; rfl
      have efin : finAt l z = isFin x := by
        unfold finAt
        rw [hx]
        rfl
      have efil : ((l.map (·.1)).take (i + 1)).filter (finAt l) = ((l.map (·.1)).take i).filter (finAt l) ++ (if isFin x = true then [z] else []) := by
        rw [take_succ_get hz, List.filter_append]
        congr 1
        rw [List.filter_cons, efin]
        rfl
      have hi2 : i < l.length := by
        have := (List.getElem?_eq_some_iff.mp hz).1
        rwa [List.length_map] at this
      have hwl : wl.length ≤ 200 := by
        have e1 := congrArg List.length kw
        rw [List.length_map] at e1
        rw [e1]
        exact Nat.le_trans (List.length_filter_le _ _) (by rw [List.length_take, List.length_map]; omega)
      walk_at "go"
      refine x_getL (l := m) (.inr ⟨od, hD3⟩) (lookup_of nd2 hza) ?_
      walk_at "go"
      refine x_ixt 0 (SqT.of ha3) rfl hxs1 ?_
      walk_at "go"
      rw [kind_fin]
      refine x_ite (fun hf => ?_) (fun hf => ?_)
      · walk_at "go"
        refine ⟨p, 2 * rc + 1, rfl, p3, by omega, by omega, fun H4 y b4 p4 y0 y1 => ?_⟩
        walk_at "go"
        refine x_putL (b4 W _ hW3 nWp) (by omega) rfl ?_
        walk_at "go"
        have hzn : z ∉ wl.map (·.1) := fun hmz => by
          rw [kw] at hmz
          have hmz := (List.mem_filter.mp hmz).1
          obtain ⟨j, hj, he⟩ := List.getElem_of_mem hmz
          have hj2 : j < i := by simp at hj; omega
          have h5 : (l.map (·.1))[j]? = some z := by
            rw [List.getElem_take] at he
            rw [List.getElem?_eq_getElem (by simp at hj ⊢; omega), he]
          have := L2.nd_ix hnd h5 hz
          omega
        refine ⟨_, putL wl z (y - rc), rfl, fun b o e n => ?_, p4.upd nWp.symm, upd_same, ?_, fun q hq => ?_⟩
        · have nbW : b ≠ W := fun e2 => by rw [e2, wo_at] at e; cases e
          rw [upd_ne nbW]
          exact b4 b o (b3 b o e n) n
        · rw [putL_new _ hzn, List.map_append, kw, efil, hf]
          rfl
        · rcases putL_mem hq with rfl | ⟨hq, _⟩
          · exact ⟨by show -99 ≤ y - rc; omega, by show y - rc ≤ 99; omega⟩
          · exact bw q hq
      · walk_at "go"
        refine ⟨_, wl, rfl, b3, p3, hW3, ?_, bw⟩
        rw [kw, efil, hf]
        simp
    · rintro σ H3 ⟨v4, wl, rfl, b3, p3, hW3, kw, bw⟩
      have hD3 : H3 D = some (.frz od (.dK (strK V.ref m))) := b3 D _ (by rw [wo_ne nDW]; exact upd_same) nDp
      refine ⟨hD3, ?_⟩
      walk_at "go"
      have hkl : (strK V.ref m).length = (l.map (·.1)).length := by
        rw [← hk, List.length_map, List.length_map]
      rw [hkl, List.take_length] at kw
      refine k _ W wl (fun b o e n => ?_) (p3.upd nDp.symm) hW0 (by rw [upd_ne nDW.symm]; exact hW3) kw bw
      by_cases hb : b = D
      · subst hb
        rw [hd] at e
        rw [upd_same, e]
      · have nbW : b ≠ W := fun e2 => by rw [e2, hW0] at e; cases e
        rw [upd_ne hb]
        exact b3 b o (by rw [wo_ne nbW, upd_ne hb]; exact b2 b o e n) n
theorem ok_l_world {f : Addr} {fd : FuncData} (F : Fun K "_law_world" "_law_world" s_l_world f fd) (Z_len : mg "len" = none) (C_draw : Cal P w K mg base 1 "_law_draw" ["_law_pool_here", "_law_many"] spDraw)
    (C_words : Cal P w K mg base 3 "_law_words" ["_law_pool_here", "_law_many"] spWords) (C_l_stands : Cal P w K mg base 4 "_law_stands" ["_law_pool_here", "_law_names", "_law_hands", "_law_ringless"] spStands)
    (C_l_worths : Cal P w K mg base 2 "_law_worths" ["_law_pool_here", "_law_stands_here"] spWorthsL) (C_endless : Cal P w K mg base 2 "_law_endless" ["_law_pool_here", "_law_wanted"] spEndless) :
    FnOk P w K mg base CX0 5 f fd ["_law_pool_here", "_law_most", "_law_ringless"] spWorld := by
  refine F.ok sc_l_world (fun vs H Q E h => ?_) (fun cdv A outer s H vs Q E hr h => ?_)
  · obtain ⟨_, _, _, rfl, _⟩ := h
    rfl
  · obtain ⟨p, most, rl, rfl, hp, m2, m60, k⟩ := h
    refine ⟨_, (pss_cons (ps_set (i := 3) sc_l_world.nd rfl (Or.inl rfl) (pe_ix ix_list (pe_lst (pa_cons pe_int (pa_cons pe_int (pa_cons pe_int (pa_cons pe_int (pa_cons pe_int (pa_cons pe_int (pa_cons pe_int (pa_cons pe_int pa_nil))))))))) (pe_cal C_draw (hr.mono (by decide)) (by rfl) (pa_cons (pv 0) (pa_cons pe_int pa_nil))) (fun _ _ => rfl)))
      (pss_cons (ps_set (i := 4) sc_l_world.nd rfl (Or.inl rfl) (pe_cmpR op_eq (pe_cal C_draw (hr.mono (by decide)) (by rfl) (pa_cons (pv 0) (pa_cons pe_int pa_nil))) pe_int (nomark _)))
      (pss_cons (ps_set (i := 5) sc_l_world.nd rfl (Or.inl rfl) (pe_cal C_words (hr.mono (by decide)) (by rfl) (pa_cons (pv 0) (pa_cons (pe_op op_add pe_int (pe_cal C_draw (hr.mono (by decide)) (by rfl) (pa_cons (pv 0) (pa_cons (pe_op op_sub (pv 1) pe_int) pa_nil)))) pa_nil))))
      (pss_cons (ps_set (i := 6) sc_l_world.nd rfl (Or.inl rfl) (pe_cal C_l_stands (hr.mono (by decide)) (by rfl) (pa_cons (pv 0) (pa_cons (pv 5) (pa_cons (pv 3) (pa_cons (pe_or (pv 2) (pe_one (pv 4))) pa_nil))))))
      (pss_cons (ps_set (i := 7) sc_l_world.nd rfl (Or.inl rfl) (pe_ix ix_list (pv 5) pe_int (fun _ _ => rfl)))
      (pss_cons (ps_if (pt_cmpR op_eq (pe_cal C_draw (hr.mono (by decide)) (by rfl) (pa_cons (pv 0) (pa_cons pe_int pa_nil))) pe_int (nomark _))
      (pss_one (ps_set (i := 7) sc_l_world.nd rfl (Or.inl rfl) (pe_ix ix_list (pv 5) (pe_cal C_draw (hr.mono (by decide)) (by rfl) (pa_cons (pv 0) (pa_cons (pe_callB call_lenA (by rfl) Z_len (by decide +kernel) (pa_cons (pv 5) pa_nil)) pa_nil))) (fun _ _ => rfl))))
      pss_nil)
      (pss_cons (ps_set (i := 8) sc_l_world.nd rfl (Or.inl rfl) (pe_cal C_l_worths (hr.mono (by decide)) (by rfl) (pa_cons (pv 0) (pa_cons (pv 6) pa_nil))))
      (pss_one (ps_ret (pe_lst (pa_cons (pv 3) (pa_cons (pv 7) (pa_cons (pv 6) (pa_cons (pv 8) (pa_cons (pe_cal C_endless (hr.mono (by decide)) (by rfl) (pa_cons (pv 0) (pa_cons (pv 8) pa_nil))) pa_nil))))))))))))))), ?_⟩
    walk_at "go"
    refine ⟨sz_le (by simp), fun lm hlm => ?_⟩
    have hp0 := hp.new (o := .lst [.int 2, .int 2, .int 3, .int 1, .int 3, .int 2, .int 4, .int 2]) hlm
    walk_at "go"
    refine ⟨p, 8, rfl, hp0, by decide, by decide, fun H1 j b1 p1 j0 j1 => ?_⟩
    have hlm1 := b1 lm _ upd_same (hp.ne hlm)
    obtain ⟨h, hh, hhm⟩ := pickI [2, 2, 3, 1, 3, 2, 4, 2] j0 j1
    have hh4 : 1 ≤ h ∧ h ≤ 4 := by simp at hhm; omega
    have b01 : But p H H1 := (But.of_same (same_new hlm)).trans b1
    walk_at "go"
    refine x_ixl j.toNat (SqL.of hlm1) (by omega) hh ?_
    walk_at "go"
    refine ⟨p, 2, rfl, p1, by decide, by decide, fun H2 pl b2 p2 pl0 pl1 => ?_⟩
    walk_at "go"
    refine ⟨p, _, rfl, p2, by omega, by omega, fun H3 n b3 p3 n0 n1 => ?_⟩
    walk_at "go"
    refine ⟨p, _, rfl, p3, by omega, by omega, fun H4 q ns b4 p4 hq0 hq nl nn nd => ?_⟩
    have nqp : q ≠ p := p3.ne hq0
    have nl1 : 1 ≤ ns.length := by omega
    have nl2 : ns.length ≤ 60 := by omega
    have b04 : But p H H4 := ((b01.trans b2).trans b3).trans b4
    walk_at "go"
    refine x_ite (fun hrl => ?_) (fun hrl => ?_)
    all_goals
      walk_at "go"
      refine ⟨p, q, h, _, ns, rfl, p4, hq, nqp, nl1, by omega, nn, nd, hh4.1, hh4.2, fun H5 D l b5 p5 hD0 hT5 kl gl => ?_⟩
      have g : GoodT h l := by
        have e1 := congrArg List.length kl
        rw [List.length_map] at e1
        exact ⟨by rw [kl]; exact nd, by omega, by omega, fun z hz => nn z (by rw [← kl]; exact hz), fun z x hz => by rw [kl]; exact gl z x hz⟩
      have ll := g.l2
      have lns : l.length = ns.length := by
        have e1 := congrArg List.length kl
        rwa [List.length_map] at e1
      have hq5 := b5 q _ hq nqp
      have hz0 : ns[0]? = some ns[0] := List.getElem?_eq_getElem (by omega)
      have b05 := b04.trans b5
      have nDp : D ≠ p := fun e => by
        obtain ⟨m, h1, _⟩ := hT5.ex
        exact (wo_some h1).2 e
      have hDH : H D = none := none_of_but b04 hD0 nDp
      have cont : ∀ (st : Str) (H6 : Hp), But p H5 H6 → PoolAt H6 p → st ∈ l.map (·.1) → ∀ (N : L2.St → Hp → Prop) (r : VK) (b c : L2.St → Hp → Prop),
          (∀ H' W G wl e, But p H H' → PoolAt H' p → H W = none → H G = none → W ≠ p → G ≠ p → WorldAt H' p W D G h st l wl e → r (.ref W) H') →
          tSeq (tAsg (tCall spWorthsL [] E0 (tCons (tVar 0) (tCons (tVar 6) tNil))) (gName 8)) (tRet (tLst (tCons (tVar 3) (tCons (tVar 7) (tCons (tVar 6) (tCons (tVar 8) (tCons (tCall spEndless [] E0 (tCons (tVar 0) (tCons (tVar 8) tNil))) tNil))))))) ⟨N, r, b, c⟩
            [some (.ref p), some (.int most), some (.bl rl), some (.int h), some (.bl (decide (pl = 0))), some (.ref q), some (.ref D), some (.str st), none] H6 := by
        intro st H6 b6 p6 hst N r b c hN
        walk_at "go"
        refine ⟨p, D, l, rfl, p6, hT5.same (but_wo b6), g.nd, by omega, fun H7 W wl b7 p7 hW0 hW kw bw => ?_⟩
        have nWp : W ≠ p := fun e => by
          obtain ⟨ms, e1, _⟩ := p6
          rw [e, e1] at hW0
          cases hW0
        walk_at "go"
        have wnd : (wl.map (·.1)).Nodup := by rw [kw]; exact g.nd.sublist List.filter_sublist
        have wll : wl.length ≤ 63 := by
          have e1 := congrArg List.length kw
          rw [List.length_map] at e1
          rw [e1]
          exact Nat.le_trans (List.length_filter_le _ _) (by rw [List.length_map]; omega)
        refine ⟨p, W, wl, rfl, p7, hW, wnd, by omega, bw, fun H8 e b8 p8 e1 e2 sd => ?_⟩
        walk_at "go"
        refine ⟨sz_le (by simp), fun A hA => ?_⟩
        have nAp : A ≠ p := p8.ne hA
        have b08 := ((b05.trans b6).trans b7).trans b8
        have bH6 := b05.trans b6
        have hT8 : DictOf SdAt (wo (upd H8 A (.lst [.int h, .str st, .ref D, .ref W, .int e])) p) D l := by
          refine hT5.same ?_
          rw [wo_upd_ne nAp]
          exact (but_wo ((b6.trans b7).trans b8)).trans (same_new (wo_none hA))
        refine hN _ A W wl e (b08.new hA) (p8.new hA) (none_of_but b08 hA nAp) (none_of_but bH6 hW0 nWp) nAp nWp ⟨upd_same, hT8, g, hh4.1, hh4.2, hst, ?_, kw, bw, e1, e2, sd⟩
        have hW8 := b8 W _ hW nWp
        rw [upd_ne (ne_of_none hW8 hA)]
        exact hW8
      walk_at "go"
      refine x_ixl 0 (SqL.of hq5) rfl (v := .str ns[0]) (by rw [List.getElem?_map, hz0]; rfl) ?_
      walk_at "go"
      refine ⟨p, 8, rfl, p5, by decide, by decide, fun H6 y b6 p6 y0 y1 => ?_⟩
      walk_at "go"
      refine x_dec (fun hy => ?_) (fun hy => ?_)
      focus
        walk_at "go"
        refine x_lenL (SqL.of (b6 q _ hq5 nqp)) ?_
        walk_at "go"
        refine ⟨p, _, rfl, p6, by rw [List.length_map]; omega, by rw [List.length_map]; omega, fun H7 t b7 p7 t0 t1 => ?_⟩
        obtain ⟨st, hst, hst2⟩ := pickS ns (j := t) t0 (by rw [List.length_map] at t1; exact t1)
        walk_at "go"
        refine x_ixl t.toNat (SqL.of (b7 q _ (b6 q _ hq5 nqp) nqp)) (by omega) hst ?_
        refine cont st H7 (b6.trans b7) p7 (by rw [kl]; exact List.mem_of_getElem? hst2) _ _ _ _ fun H' W G wl e b' p' hW hG nW nG wa => ?_
        exact k H' W D G h st l wl e b' p' hW hDH hG nW nG wa (by omega)
      refine cont ns[0] H6 b6 p6 (by rw [kl]; exact List.mem_of_getElem? hz0) _ _ _ _ fun H' W G wl e b' p' hW hG nW nG wa => ?_
      exact k H' W D G h ns[0] l wl e b' p' hW hDH hG nW nG wa (by omega)
end
/-! ### what a work tells of its stands -/
theorem wkF_none {h : Int} {st : Str} {t n e : Addr} {r : Bool} {m : Str} (h1 : m ≠ "ringless") (h2 : m ≠ "ends") (h3 : m ≠ "names") (h4 : m ≠ "table") (h5 : m ≠ "start") (h6 : m ≠ "hands") : (wkF h st t n e r).lookup m = none := by
  unfold wkF
  rw [lookup_putF, if_neg h1, lookup_putF, if_neg h2, lookup_putF, if_neg h3, lookup_putF, if_neg h4, lookup_putF, if_neg h5, lookup_putF, if_neg h6]
  rfl
theorem wkF_table {h : Int} {st : Str} {t n e : Addr} {r : Bool} : (wkF h st t n e r).lookup ("table" : Str) = some (.ref t) := by
  unfold wkF
  rw [lookup_putF, if_neg (by decide +kernel), lookup_putF, if_neg (by decide +kernel), lookup_putF, if_neg (by decide +kernel), lookup_putF, if_pos rfl]
theorem wkF_start {h : Int} {st : Str} {t n e : Addr} {r : Bool} : (wkF h st t n e r).lookup ("start" : Str) = some (.str st) := by
  unfold wkF
  rw [lookup_putF, if_neg (by decide +kernel), lookup_putF, if_neg (by decide +kernel), lookup_putF, if_neg (by decide +kernel), lookup_putF, if_neg (by decide +kernel), lookup_putF, if_pos rfl]
theorem wkF_hands {h : Int} {st : Str} {t n e : Addr} {r : Bool} : (wkF h st t n e r).lookup ("hands" : Str) = some (.int h) := by
  unfold wkF
  rw [lookup_putF, if_neg (by decide +kernel), lookup_putF, if_neg (by decide +kernel), lookup_putF, if_neg (by decide +kernel), lookup_putF, if_neg (by decide +kernel), lookup_putF, if_neg (by decide +kernel), lookup_putF, if_pos rfl]
def moverV : Sd → V
  | .hand k _ => .int k
  | _ => .non
def stepsL : Sd → List Str
  | .fin => []
  | .chance l => l.map (·.1)
  | .hand _ l => l.map (·.1)
def toS : Sd → Str → Option Str
  | .fin, _ => none
  | .chance l, z => (l.lookup z).map (·.1)
  | .hand _ l, z => l.lookup z
def SrtSd (x : Sd) : Prop := sortedS (stepsL x) = true
theorem toS_mem {x : Sd} {z t : Str} (h : toS x z = some t) : z ∈ stepsL x := by
  cases x with
  | fin => cases h
  | chance l =>
    show z ∈ l.map (·.1)
    have h1 : (l.lookup z).map (·.1) = some t := h
    cases e : l.lookup z with
    | none => rw [e] at h1; cases h1
    | some q => exact List.mem_map.mpr ⟨_, lookup_mem e, rfl⟩
  | hand k l => exact List.mem_map.mpr ⟨_, lookup_mem (show l.lookup z = some t from h), rfl⟩
theorem toS_some {x : Sd} {z : Str} (h : z ∈ stepsL x) : ∃ t, toS x z = some t := by
  cases x with
  | fin => cases h
  | chance l =>
    obtain ⟨q, hq⟩ := lookup_isSome (l := l) (z := z) h
    exact ⟨q.1, by show (l.lookup z).map (·.1) = _; rw [hq]; rfl⟩
  | hand k l => exact lookup_isSome (l := l) h
/-- a work that is read; its table may be held -/
structure WorkRd (C : Addr) (H : Hp) (p : Addr) (h : Int) (st : Str) (l : List (Str × Sd)) : Prop where
  ex : ∃ dx t n e, H p = some (.ins C dx (wkF h st t n e (ringB l (l.map (·.1))))) ∧ TabRd H t l ∧ H n = some (.tup (strsV (l.map (·.1)))) ∧ H e = some (.tup (strsV ((l.map (·.1)).filter (finAt l))))
theorem WorkAt.rd {C : Addr} {H : Hp} {p : Addr} {h : Int} {st : Str} {l : List (Str × Sd)} (w : WorkAt C H p h st l) : WorkRd C H p h st l := by
  obtain ⟨dx, t, n, e, h1, h2, h3, h4⟩ := w.ex
  exact ⟨dx, t, n, e, h1, .of h2, h3, h4⟩
instance {C : Addr} {H : Hp} {p : Addr} {h : Int} {st : Str} {l : List (Str × Sd)} : Coe (WorkAt C H p h st l) (WorkRd C H p h st l) := ⟨WorkAt.rd⟩
theorem WorkRd.same {C : Addr} {H H' : Hp} {p : Addr} {h : Int} {st : Str} {l : List (Str × Sd)} (w : WorkRd C H p h st l) (s : L2.Same H H') : WorkRd C H' p h st l := by
  obtain ⟨dx, t, n, e, h1, h2, h3, h4⟩ := w.ex
  exact ⟨dx, t, n, e, s _ _ h1, h2.same s, s _ _ h3, s _ _ h4⟩
def spRow (C : Addr) : Sp := fun vs H Q _ => ∃ (a : Addr) (h : Int) (st z : Str) (l : List (Str × Sd)) (x : Sd), vs = [.ref a, .str z] ∧ WorkRd C H a h st l ∧ l.lookup z = some x ∧ ∀ b, SdAt H b x → Q (.ref b) H
def spKind (C : Addr) : Sp := fun vs H Q _ => ∃ (a : Addr) (h : Int) (st z : Str) (l : List (Str × Sd)) (x : Sd), vs = [.ref a, .str z] ∧ WorkRd C H a h st l ∧ l.lookup z = some x ∧ Q (.str (kindS x)) H
def spMover (C : Addr) : Sp := fun vs H Q _ => ∃ (a : Addr) (h : Int) (st z : Str) (l : List (Str × Sd)) (x : Sd), vs = [.ref a, .str z] ∧ WorkRd C H a h st l ∧ l.lookup z = some x ∧ Q (moverV x) H
def spSteps (C : Addr) : Sp := fun vs H Q _ => ∃ (a : Addr) (h : Int) (st z : Str) (l : List (Str × Sd)) (x : Sd), vs = [.ref a, .str z] ∧ WorkRd C H a h st l ∧ l.lookup z = some x ∧ GoodSd h (l.map (·.1)) x ∧ SrtSd x ∧
  ∀ H' p, L2.Same H H' → H p = none → H' p = some (.lst (strsV (stepsL x))) → Q (.ref p) H'
def spTo (C : Addr) : Sp := fun vs H Q _ => ∃ (a : Addr) (h : Int) (st z s t : Str) (l : List (Str × Sd)) (x : Sd), vs = [.ref a, .str z, .str s] ∧ WorkRd C H a h st l ∧ l.lookup z = some x ∧ toS x s = some t ∧ Q (.str t) H
/-! ### the law's mover -/
theorem x_asgT {te : TE} {K : PySem.W.Frag} {k : Nat} {gs : TGs} {σ : L2.St} {H : Hp} {n : L2.St → Hp → Prop} {r : VK} {b c : L2.St → Hp → Prop} (h : te σ H fun v H1 => gTup K k gs v σ H1 n) : tAsg te (gTup K k gs) ⟨n, r, b, c⟩ σ H := h
def spMoverL : Sp := fun vs H Q _ => ∃ (D : Addr) (z : Str) (l : List (Str × Sd)) (x : Sd), vs = [.ref D, .str z] ∧ TabRd H D l ∧ l.lookup z = some x ∧ Q (moverV x) H
def mvIn (lot : List Int) : Sd → Bool
  | .hand k _ => decide (k ∈ lot)
  | _ => false
theorem inV_non (ws : List Int) : inV .non (intsV ws) = false := by
  induction ws with
  | nil => rfl
  | cons a r ih => exact ih
theorem x_inMv {K : PySem.W.Frag} {H : Hp} {Q : VK} {p : Addr} {lot : List Int} {x : Sd} (h : SqT K H p (intsV lot)) (q : Q (.bl (mvIn lot x)) H) : rIn K false (moverV x) (.ref p) H Q := by
  cases x with
  | fin => exact ⟨p, _, rfl, .inr h, rfl, flat_ints lot, by show Q (.bl (inV .non (intsV lot))) H; rw [inV_non]; exact q⟩
  | chance _ => exact ⟨p, _, rfl, .inr h, rfl, flat_ints lot, by show Q (.bl (inV .non (intsV lot))) H; rw [inV_non]; exact q⟩
  | hand k _ => exact x_inTi h q
section
variable {P : Program} {w : World} {K : PySem.W.Frag} {mg : Str → Option Value} {base : Heap} {CW : Addr}
end
/-! ### the law's steps -/
structure RowsAt (H : Hp) (as : List Addr) (ps : List (Str × Str)) : Prop where
  len : as.length = ps.length
  at_ : ∀ (i : Nat) (a : Addr) (q : Str × Str), as[i]? = some a → ps[i]? = some q → H a = some (.tup [.str q.1, .str q.2])
theorem RowsAt.same {H H' : Hp} {as : List Addr} {ps : List (Str × Str)} (r : RowsAt H as ps) (s : L2.Same H H') : RowsAt H' as ps := ⟨r.len, fun i a q h1 h2 => s _ _ (r.at_ i a q h1 h2)⟩
theorem RowsAt.upd {H : Hp} {as : List Addr} {ps : List (Str × Str)} {D : Addr} {xs ys : List V} (r : RowsAt H as ps) (hD : H D = some (.lst xs)) : RowsAt (L2.upd H D (.lst ys)) as ps := ⟨r.len, fun i a q h1 h2 => by
  have e := r.at_ i a q h1 h2
  rw [upd_ne (ne_of e hD (by intro z; cases z))]
  exact e⟩
theorem RowsAt.snoc {H : Hp} {as : List Addr} {ps : List (Str × Str)} {a : Addr} {q : Str × Str} (r : RowsAt H as ps) (ha : H a = some (.tup [.str q.1, .str q.2])) : RowsAt H (as ++ [a]) (ps ++ [q]) := by
  refine ⟨by rw [List.length_append, List.length_append, r.len]; rfl, fun i b y h1 h2 => ?_⟩
  by_cases hi : i < as.length
  · rw [List.getElem?_append_left hi] at h1
    rw [List.getElem?_append_left (by rw [← r.len]; exact hi)] at h2
    exact r.at_ i b y h1 h2
  · rw [List.getElem?_append_right (by omega)] at h1
    rw [List.getElem?_append_right (by rw [← r.len]; omega), ← r.len] at h2
    have e : i - as.length = 0 := by
      have := (List.getElem?_eq_some_iff.mp h1).1
      simp at this
      omega
    rw [e] at h1 h2
    cases h1
    cases h2
    exact ha
def spStepsL : Sp := fun vs H Q _ => ∃ (D : Addr) (z : Str) (l : List (Str × Sd)) (x : Sd) (h : Int) (ns : List Str), vs = [.ref D, .str z] ∧ TabRd H D l ∧ l.lookup z = some x ∧ GoodSd h ns x ∧
  ∀ H' p as ps, L2.Same H H' → H p = none → H' p = some (.lst (as.map V.ref)) → RowsAt H' as ps → (ps.map (·.1)).Perm (stepsL x) → sortedS (ps.map (·.1)) = true → (∀ q ∈ ps, toS x q.1 = some q.2) → Q (.ref p) H'
section
variable {P : Program} {w : World} {K : PySem.W.Frag} {mg : Str → Option Value} {base : Heap}
theorem ok_l_steps {f : Addr} {fd : FuncData} (F : Fun K "_law_steps" "_law_steps" s_l_steps f fd) (Z_sorted : mg "sorted" = none) : FnOk P w K mg base CX0 1 f fd ["_law_stands_here", "_law_name"] spStepsL := by
  refine F.ok sc_l_steps (fun vs H Q E h => ?_) (fun cdv A outer s H vs Q E hr h => ?_)
  · obtain ⟨_, _, _, _, _, _, rfl, _⟩ := h
    rfl
  · obtain ⟨D, z, l, x, h, ns, rfl, hT, hz, hg, q⟩ := h
    have hu := hu_of hr
    obtain ⟨m, b, hm, hb, hx⟩ := hT.at hz
    refine ⟨_, (pss_cons (ps_set (i := 2) sc_l_steps.nd rfl (Or.inr rfl) (pe_dget hu (pv 0) (pv 1) (fun _ _ => rfl)))
      (pss_cons (ps_if (pt_cmpR op_eq (pe_ix ix_tup (pv 2) pe_int (fun _ _ => rfl)) pe_str (nomark _))
      (pss_one (ps_ret (pe_lc (own := [("_law_step", 3)]) (g := gName 3) (tt := tYes) (by rfl) sc_l_steps.nd (pi_list (pe_callB (call_sortedDA rfl) (by rfl) Z_sorted (by decide +kernel) (pa_cons (pe_ix ix_tup (pv 2) pe_int (fun _ _ => rfl)) pa_nil))) (blkOk_by (own := [("_law_step", 3)]) (N := N_l_steps) (sc := defScope s_l_steps) (by decide +kernel)) (fun _ _ _ _ _ => (pg_name (i := 3) sc_l_steps.nd rfl (Or.inl rfl))) (fun _ _ _ _ _ => pts_nil) (fun _ _ _ _ _ => by exact (pe_tup (pa_cons (pv 3) (pa_cons (pe_dget hu (pe_ix (ix_tupK (K := K)) (pv 2) pe_int (fun _ _ => rfl)) (pv 3) (fun _ _ => rfl)) pa_nil)))))))
      pss_nil)
      (pss_cons (ps_if (pt_cmpR op_eq (pe_ix ix_tup (pv 2) pe_int (fun _ _ => rfl)) pe_str (nomark _))
      (pss_one (ps_ret (pe_lc (own := [("_law_step", 3)]) (g := gName 3) (tt := tYes) (by rfl) sc_l_steps.nd (pi_list (pe_callB (call_sortedDA rfl) (by rfl) Z_sorted (by decide +kernel) (pa_cons (pe_ix ix_tup (pv 2) pe_int (fun _ _ => rfl)) pa_nil))) (blkOk_by (own := [("_law_step", 3)]) (N := N_l_steps) (sc := defScope s_l_steps) (by decide +kernel)) (fun _ _ _ _ _ => (pg_name (i := 3) sc_l_steps.nd rfl (Or.inl rfl))) (fun _ _ _ _ _ => pts_nil) (fun _ _ _ _ _ => by exact (pe_tup (pa_cons (pv 3) (pa_cons (pe_ix (ix_tupK (K := K)) (pe_dget hu (pe_ix (ix_tupK (K := K)) (pv 2) pe_int (fun _ _ => rfl)) (pv 3) (fun _ _ => rfl)) pe_int (fun _ _ => rfl)) pa_nil)))))))
      pss_nil)
      (pss_one (ps_ret (pe_lst pa_nil)))))), ?_⟩
    walk_at "go"
    refine x_getL hm hb ?_
    walk_at "go"
    cases x with
    | fin =>
      have hb1 : H b = some (.tup [.str "end"]) := hx
      refine x_ixt 0 (SqT.of hb1) rfl rfl ?_
      walk_at "go"
      refine x_no (by decide +kernel) ?_
      walk_at "go"
      refine x_ixt 0 (SqT.of hb1) rfl rfl ?_
      walk_at "go"
      refine x_no (by decide +kernel) ?_
      walk_at "go"
      refine ⟨by decide, fun p hp => ?_⟩
      exact q _ p [] [] (same_new hp) hp upd_same ⟨rfl, fun i a q h => by cases h⟩ (List.Perm.refl _) rfl (fun q hq => by cases hq)
    | chance l2 =>
      obtain ⟨d2, hb1, hD⟩ := hx
      obtain ⟨g1, g2, g3, g4⟩ := hg
      obtain ⟨m2, hd, hk, hp2⟩ := hD.ex
      have ek : (strK V.ref m2).map (·.1) = (m2.map (·.1)).map Sum.inr := by rw [List.map_map, List.map_map]; rfl
      rw [hk] at ek
      refine x_ixt 0 (SqT.of hb1) rfl rfl ?_
      walk_at "go"
      refine x_no (by decide +kernel) ?_
      walk_at "go"
      refine x_ixt 0 (SqT.of hb1) rfl rfl ?_
      walk_at "go"
      refine x_yes rfl ?_
      walk_at "go"
      refine x_ixt 1 (SqT.of hb1) rfl rfl ?_
      walk_at "go"
      refine ⟨d2, _, l2.map (·.1), rfl, .inl hd, ek, by rw [List.length_map]; omega, fun ys c hperm hsort hc => runL (SqL.of upd_same) fun E1 hE1 => ?_⟩
      have ncE : c ≠ E1 := ne_of_none upd_same hE1
      have hE0 : H E1 = none := by rw [upd_ne ncE.symm] at hE1; exact hE1
      have yl : ys.length ≤ 4 := by have := hperm.length_eq; rw [List.length_map] at this; omega
      refine lcL (xs := ys.map V.str) (fun i H' => L2.Same H H' ∧ H' c = some (.lst (ys.map V.str)) ∧ ∃ as ps, H' E1 = some (.lst (as.map V.ref)) ∧ RowsAt H' as ps ∧ ps.map (·.1) = ys.take i ∧ ∀ q ∈ ps, toS (.chance l2) q.1 = some q.2) ?_ ?_ ?_ ?_
      · exact ⟨same_upd (same_new hc) hE0, by rw [upd_ne ncE]; exact upd_same, [], [], upd_same, ⟨rfl, fun i a q h => by cases h⟩, by simp, fun q hq => by cases hq⟩
      · exact fun i H' _ h => SqL.of h.2.1
      · rintro i y H3 hy ⟨s3, hc3, as, ps, hE3, hR, kp, hto⟩
        rw [List.getElem?_map] at hy
        cases hz2 : ys[i]? with
        | none => rw [hz2] at hy; cases hy
        | some s1 =>
          rw [hz2] at hy
          have ex : V.str s1 = y := Option.some.inj hy
          subst ex
          obtain ⟨v, hv⟩ := lookup_isSome (hperm.mem_iff.mp (List.mem_of_getElem? hz2))
          obtain ⟨m3, e3, hd3, he3, hpr⟩ := (hD.imp s3 fun _ _ h => s3 _ _ h).at hv
          have hpr1 : H3 e3 = some (.tup [.str v.1, .int v.2]) := hpr
          walk_at "go"
          refine ⟨rfl, ?_⟩
          walk_at "go"
          refine x_ixt 1 (SqT.of (s3 _ _ hb1)) rfl rfl ?_
          walk_at "go"
          refine x_getL (l := m3) (.inl hd3) he3 ?_
          walk_at "go"
          refine x_ixt 0 (SqT.of hpr1) rfl rfl ?_
          walk_at "go"
          refine ⟨sz_le (by simp), fun t ht => ?_⟩
          have nEt : E1 ≠ t := ne_of_none hE3 ht
          have nct : c ≠ t := ne_of_none hc3 ht
          have hE4 : (upd H3 t (.tup [.str s1, .str v.1])) E1 = some (.lst (as.map V.ref)) := by rw [upd_ne nEt]; exact hE3
          have plen : ps.length ≤ 4 := by have := congrArg List.length kp; rw [List.length_map, List.length_take] at this; omega
          refine ⟨_, hE4, sz_lt (by rw [List.length_map, hR.len]; omega), same_upd (same_upd s3 (s3.free ht)) hE0, by rw [upd_ne ncE, upd_ne nct]; exact hc3, as ++ [t], ps ++ [(s1, v.1)], by rw [upd_same]; simp, ((hR.same (same_new ht)).upd hE4).snoc (q := (s1, v.1)) (by rw [upd_ne nEt.symm, upd_same]), by rw [List.map_append, kp, take_succ_get hz2]; rfl, fun q hq => ?_⟩
          rcases List.mem_append.mp hq with hq | hq
          · exact hto q hq
          · rw [List.mem_singleton.mp hq]
            show (l2.lookup s1).map (·.1) = some v.1
            rw [hv]
            rfl
      · rintro H3 ⟨s3, hc3, as, ps, hE3, hR, kp, hto⟩
        rw [List.length_map, List.take_length] at kp
        exact q H3 E1 as ps s3 hE0 hE3 hR (by rw [kp]; exact hperm) (by rw [kp]; exact hsort) hto
    | hand k2 l2 =>
      obtain ⟨d2, hb1, hd⟩ := hx
      obtain ⟨_, _, g1, g2, g3, g4⟩ := hg
      have ek : (strK V.str l2).map (·.1) = (l2.map (·.1)).map Sum.inr := by rw [List.map_map, List.map_map]; rfl
      refine x_ixt 0 (SqT.of hb1) rfl rfl ?_
      walk_at "go"
      refine x_yes rfl ?_
      walk_at "go"
      refine x_ixt 2 (SqT.of hb1) rfl rfl ?_
      walk_at "go"
      refine ⟨d2, _, l2.map (·.1), rfl, .inl hd, ek, by rw [List.length_map]; omega, fun ys c hperm hsort hc => runL (SqL.of upd_same) fun E1 hE1 => ?_⟩
      have ncE : c ≠ E1 := ne_of_none upd_same hE1
      have hE0 : H E1 = none := by rw [upd_ne ncE.symm] at hE1; exact hE1
      have yl : ys.length ≤ 4 := by have := hperm.length_eq; rw [List.length_map] at this; omega
      refine lcL (xs := ys.map V.str) (fun i H' => L2.Same H H' ∧ H' c = some (.lst (ys.map V.str)) ∧ ∃ as ps, H' E1 = some (.lst (as.map V.ref)) ∧ RowsAt H' as ps ∧ ps.map (·.1) = ys.take i ∧ ∀ q ∈ ps, toS (.hand k2 l2) q.1 = some q.2) ?_ ?_ ?_ ?_
      · exact ⟨same_upd (same_new hc) hE0, by rw [upd_ne ncE]; exact upd_same, [], [], upd_same, ⟨rfl, fun i a q h => by cases h⟩, by simp, fun q hq => by cases hq⟩
      · exact fun i H' _ h => SqL.of h.2.1
      · rintro i y H3 hy ⟨s3, hc3, as, ps, hE3, hR, kp, hto⟩
        rw [List.getElem?_map] at hy
        cases hz2 : ys[i]? with
        | none => rw [hz2] at hy; cases hy
        | some s1 =>
          rw [hz2] at hy
          have ex : V.str s1 = y := Option.some.inj hy
          subst ex
          obtain ⟨v, hv⟩ := lookup_isSome (hperm.mem_iff.mp (List.mem_of_getElem? hz2))
          walk_at "go"
          refine ⟨rfl, ?_⟩
          walk_at "go"
          refine x_ixt 2 (SqT.of (s3 _ _ hb1)) rfl rfl ?_
          walk_at "go"
          refine x_getL (l := l2) (.inl (s3 _ _ hd)) hv ?_
          walk_at "go"
          refine ⟨sz_le (by simp), fun t ht => ?_⟩
          have nEt : E1 ≠ t := ne_of_none hE3 ht
          have nct : c ≠ t := ne_of_none hc3 ht
          have hE4 : (upd H3 t (.tup [.str s1, .str v])) E1 = some (.lst (as.map V.ref)) := by rw [upd_ne nEt]; exact hE3
          have plen : ps.length ≤ 4 := by have := congrArg List.length kp; rw [List.length_map, List.length_take] at this; omega
          refine ⟨_, hE4, sz_lt (by rw [List.length_map, hR.len]; omega), same_upd (same_upd s3 (s3.free ht)) hE0, by rw [upd_ne ncE, upd_ne nct]; exact hc3, as ++ [t], ps ++ [(s1, v)], by rw [upd_same]; simp, ((hR.same (same_new ht)).upd hE4).snoc (q := (s1, v)) (by rw [upd_ne nEt.symm, upd_same]), by rw [List.map_append, kp, take_succ_get hz2]; rfl, fun q hq => ?_⟩
          rcases List.mem_append.mp hq with hq | hq
          · exact hto q hq
          · rw [List.mem_singleton.mp hq]
            exact hv
      · rintro H3 ⟨s3, hc3, as, ps, hE3, hR, kp, hto⟩
        rw [List.length_map, List.take_length] at kp
        exact q H3 E1 as ps s3 hE0 hE3 hR (by rw [kp]; exact hperm) (by rw [kp]; exact hsort) hto
end
/-! ### wishes -/
def valueV : V → Bool
  | .int i => decide (-99 ≤ i) && decide (i ≤ 99)
  | _ => false
def spIsValue (K : PySem.W.Frag) : Sp := fun vs H Q _ => ∃ x k, vs = [x] ∧ Kd K H x k ∧ Q (.bl (valueV x)) H
def worthsB (kvs : List (Key × V)) : Bool := decide (kvs.length ≤ 100) && kvs.all fun p => nameV (kV p.1) && valueV p.2
def kvFine (K : PySem.W.Frag) (H : Hp) (kvs : List (Key × V)) : Prop := ∀ p ∈ kvs, (∀ z, p.1 = Sum.inr z → z.length ≤ 10000) ∧ ∃ k, Kd K H p.2 k
/-- of a dict; of anything else it is False -/
def spAreWorths (K : PySem.W.Frag) : Sp := fun vs H Q _ => (∃ d kvs, vs = [.ref d] ∧ H d = some (.dK kvs) ∧ kvFine K H kvs ∧ ∀ H', L2.Same H H' → Q (.bl (worthsB kvs)) H') ∨
  ∃ x k, vs = [x] ∧ Kd K H x k ∧ k ≠ .dict ∧ Q (.bl false) H
theorem kV_kd {K : PySem.W.Frag} {H : Hp} (k : Key) : ∃ n, Kd K H (kV k) n := by
  cases k with
  | inl i => exact ⟨_, .int i⟩
  | inr z => exact ⟨_, .str z⟩
section
variable {P : Program} {w : World} {K : PySem.W.Frag} {mg : Str → Option Value} {base : Heap}
theorem ok_is_value {f : Addr} {fd : FuncData} (F : Fun K "is_value" "is_value" s_is_value f fd) (C_is_integer : Cal P w K mg base 1 "is_integer" ["thing"] (spIsInt K)) : FnOk P w K mg base CX0 2 f fd ["thing"] (spIsValue K) := by
  refine F.ok sc_is_value (fun vs H Q E h => ?_) (fun cdv A outer s H vs Q E hr h => ?_)
  · obtain ⟨_, _, rfl, _⟩ := h
    rfl
  · obtain ⟨x, k, rfl, hk, q⟩ := h
    refine ⟨_, (pss_one (ps_ret (pe_and (pe_cal C_is_integer (hr.mono (by decide)) (by rfl) (pa_cons (pv 0) pa_nil)) (pe_one (pe_chain op_le op_le (pe_un un_neg pe_int) (pv 0) pe_int))))), ?_⟩
    walk_at "go"
    refine ⟨x, k, rfl, hk, ?_⟩
    walk_at "go"
    cases hk with
    | int i =>
      refine x_T ?_
      walk_at "go"
      have e : valueV (.int i) = (decide (-99 ≤ i) && decide (i ≤ 99)) := rfl
      rw [e] at q
      refine x_dec (fun h1 => ?_) (fun h1 => ?_)
      · rw [decide_eq_true h1, Bool.true_and] at q
        walk_at "go"
        exact q
      · rw [decide_eq_false h1, Bool.false_and] at q
        exact q
    | non => exact x_F q
    | bl b => exact x_F q
    | str z => exact x_F q
    | lst h => exact x_F q
    | tup h => exact x_F q
    | dict h => exact x_F q
theorem ok_are_worths {f : Addr} {fd : FuncData} (F : Fun K "are_worths" "are_worths" s_are_worths f fd) (Z_dict : mg "dict" = none) (Z_len : mg "len" = none) (Z_isinstance : mg "isinstance" = none)
    (C_is_name : Cal P w K mg base 1 "is_name" ["thing"] (spIsName K)) (C_is_value : Cal P w K mg base 2 "is_value" ["thing"] (spIsValue K)) : FnOk P w K mg base CX0 3 f fd ["thing"] (spAreWorths K) := by
  refine F.ok sc_are_worths (fun vs H Q E h => ?_) (fun cdv A outer s H vs Q E hr h => ?_)
  · rcases h with ⟨_, _, rfl, _⟩ | ⟨_, _, rfl, _⟩ <;> rfl
  · refine ⟨_, (pss_cons (ps_if (PW.pt (pw_or (pt_not (pt_val (pe_callB call_isi (by rfl) Z_isinstance (by decide +kernel) (pa_cons (pv 0) (pa_cons (pe_bltn (v := .ty "dict") (by rfl) Z_dict (by decide +kernel) rfl) pa_nil))))) (pw_or1 (pt_cmpR op_gt (pe_callB call_lenDA (by rfl) Z_len (by decide +kernel) (pa_cons (pv 0) pa_nil)) pe_int (nomark _)))))
      (pss_one (ps_ret pe_bl))
      pss_nil)
      (pss_cons (ps_lock (ps_for PassesOwn.never rfl (pi_items (pv 0)) (pg_tup rfl (pgs_cons (pg_name (i := 1) sc_are_worths.nd rfl (Or.inl rfl)) (pgs_cons (pg_name (i := 2) sc_are_worths.nd rfl (Or.inl rfl)) pgs_nil)))
      (pss_one (ps_if (PW.pt (pw_or (pt_not (pt_val (pe_cal C_is_name (hr.mono (by decide)) (by rfl) (pa_cons (pv 1) pa_nil)))) (pw_or1 (pt_not (pt_val (pe_cal C_is_value (hr.mono (by decide)) (by rfl) (pa_cons (pv 2) pa_nil)))))))
      (pss_one (ps_ret pe_bl))
      pss_nil))))
      (pss_one (ps_ret pe_bl)))), ?_⟩
    rcases h with ⟨d, kvs, rfl, hd, hf, q⟩ | ⟨x, k, rfl, hk, hn, q⟩
    · walk_at "go"
      refine x_isiDict (.dict (.inl hd)) ?_
      walk_at "go"
      refine x_nT ?_
      walk_at "go"
      refine x_lenD (.inl hd) ?_
      walk_at "go"
      refine x_dec (fun hc => ?_) (fun hc => ?_)
      · walk_at "go"
        have e : worthsB kvs = false := by
          show (decide (kvs.length ≤ 100) && _) = false
          rw [decide_eq_false (by omega)]
          rfl
        rw [e] at q
        exact q H (L2.Same.refl H)
      · walk_at "go"
        refine x_lock hd trivial (fun od => ?_)
        walk_at "go"
        refine lpI (fun i σ H' => ∃ v1 v2, σ = [some (.ref d), v1, v2] ∧ L2.Same (upd H d (.frz od (.dK kvs))) H' ∧ ∀ p ∈ kvs.take i, (nameV (kV p.1) && valueV p.2) = true) upd_same ?_ ?_ ?_ ?_
        · exact ⟨none, none, rfl, L2.Same.refl _, by simp⟩
        · exact fun i σ H' _ ⟨_, _, _, s1, _⟩ => s1 d _ upd_same
        · rintro i k0 v0 σ H' T hi ⟨v1, v2, rfl, s1, hall⟩ hT
          have hm : (k0, v0) ∈ kvs := List.mem_of_getElem? hi
          obtain ⟨hkz, kn, hkn⟩ := hf _ hm
          have s2 : L2.Same (upd H d (.frz od (.dK kvs))) (upd H' T (.tup [kV k0, v0])) := same_upd s1 (s1.free hT)
          have sH : L2.Same H (upd (upd H' T (.tup [kV k0, v0])) d (.dK kvs)) := fun b o e => by
            by_cases hbd : b = d
            · subst hbd
              rw [hd] at e
              rw [upd_same, e]
            · rw [upd_ne hbd]
              exact s2 b o (by rw [upd_ne hbd]; exact e)
          have hfz : (upd H' T (.tup [kV k0, v0])) d = some (.frz od (.dK kvs)) := s2 d _ upd_same
          have bad : (nameV (kV k0) && valueV v0) = false → Q (.bl false) (upd (upd H' T (.tup [kV k0, v0])) d (.dK kvs)) := fun hb => by
            have e : worthsB kvs = false := by
              have : (kvs.all fun p => nameV (kV p.1) && valueV p.2) = false := by
                cases ea : (kvs.all fun p => nameV (kV p.1) && valueV p.2) with
                | false => rfl
                | true =>
                  have := List.all_eq_true.mp ea _ hm
                  rw [hb] at this
                  cases this
              show (decide (kvs.length ≤ 100) && (kvs.all fun p => nameV (kV p.1) && valueV p.2)) = false
              rw [this]
              simp
            rw [e] at q
            exact q _ sH
          refine x_g2 (SqT.of upd_same) ?_
          walk_at "go"
          obtain ⟨nk, hnk⟩ := kV_kd (K := K) (H := upd H' T (.tup [kV k0, v0])) k0
          refine ⟨_, nk, rfl, ⟨hnk, fun z hz => ?_⟩, ?_⟩
          · cases k0 with
            | inl i => cases hz
            | inr y =>
              cases hz
              exact hkz _ rfl
          walk_at "go"
          cases en : nameV (kV k0) with
          | false =>
            walk_at "go"
            exact ⟨hfz, bad (by rw [en]; rfl)⟩
          | true =>
            walk_at "go"
            refine ⟨v0, kn, rfl, (hkn.held hd).same s2, ?_⟩
            walk_at "go"
            cases ev : valueV v0 with
            | false =>
              walk_at "go"
              exact ⟨hfz, bad (by rw [en, ev]; rfl)⟩
            | true =>
              walk_at "go"
              refine ⟨_, _, rfl, s2, fun p hp => ?_⟩
              rw [take_succ_get hi] at hp
              rcases List.mem_append.mp hp with hp | hp
              · exact hall p hp
              · rw [List.mem_singleton.mp hp, en, ev]
                rfl
        · rintro σ H' ⟨v1, v2, rfl, s1, hall⟩
          have hfz : H' d = some (.frz od (.dK kvs)) := s1 d _ upd_same
          refine ⟨hfz, ?_⟩
          walk_at "go"
          have e : worthsB kvs = true := by
            rw [List.take_length] at hall
            show (decide (kvs.length ≤ 100) && _) = true
            rw [decide_eq_true (by omega), List.all_eq_true.mpr hall]
            rfl
          rw [e] at q
          refine q _ fun b o e => ?_
          by_cases hbd : b = d
          · subst hbd
            rw [hd] at e
            rw [upd_same, e]
          · rw [upd_ne hbd]
            exact s1 b o (by rw [upd_ne hbd]; exact e)
    · walk_at "go"
      refine x_isiDict hk ?_
      walk_at "go"
      cases k with
      | dict => exact absurd rfl hn
      | _ =>
        refine x_nF ?_
        walk_at "go"
        exact q
end
/-! ### a wish as an object -/
def wF (t : Addr) (e : Int) (b : Bool) : List (Str × V) := putF "coming" (.bl b) (putF "endless" (.int e) (putF "table" (.ref t) []))
theorem wF_table (t : Addr) (e : Int) (b : Bool) : (wF t e b).lookup ("table" : Str) = some (.ref t) := by
  unfold wF
  rw [lookup_putF, if_neg (by decide +kernel), lookup_putF, if_neg (by decide +kernel), lookup_putF, if_pos rfl]
theorem wF_endless (t : Addr) (e : Int) (b : Bool) : (wF t e b).lookup ("endless" : Str) = some (.int e) := by
  unfold wF
  rw [lookup_putF, if_neg (by decide +kernel), lookup_putF, if_pos rfl]
theorem wF_coming (t : Addr) (e : Int) (b : Bool) : (wF t e b).lookup ("coming" : Str) = some (.bl b) := by
  unfold wF
  rw [lookup_putF, if_pos rfl]
def comingB (l : List (Str × Int)) (e : Int) : Bool := l.all fun q => decide (e ≤ q.2)
/-- what may become a wish -/
structure GoodW (l : List (Str × Int)) (e : Int) : Prop where
  nd : (l.map (·.1)).Nodup
  len : l.length ≤ 63
  nm : ∀ q ∈ l, NameS q.1
  lo : ∀ q ∈ l, -99 ≤ q.2 ∧ q.2 ≤ 99
  elo : -99 ≤ e ∧ e ≤ 99
  side : Side e l
/-- a wish with the worths l (in any order) stands at p -/
structure WishAt (C : Addr) (H : Hp) (p : Addr) (l : List (Str × Int)) (e : Int) : Prop where
  ex : ∃ dx t l', H p = some (.ins C dx (wF t e (comingB l e))) ∧ H t = some (.dK (strK V.int l')) ∧ l'.Perm l ∧ sortedS (l'.map (·.1)) = true
theorem WishAt.same {C : Addr} {H H' : Hp} {p : Addr} {l : List (Str × Int)} {e : Int} (h : WishAt C H p l e) (s : L2.Same H H') : WishAt C H' p l e := by
  obtain ⟨dx, t, l', h1, h2, h3⟩ := h.ex
  exact ⟨dx, t, l', s _ _ h1, s _ _ h2, h3⟩
def spWishInit (C : Addr) : Sp := fun vs H Q _ => ∃ (s d dx : Addr) (e : Int) (l : List (Str × Int)), vs = [.ref s, .ref d, .int e] ∧ H s = some (.ins C dx []) ∧ H d = some (.dK (strK V.int l)) ∧ GoodW l e ∧
  ∀ H', (∀ b o, H b = some o → b ≠ s → H' b = some o) → WishAt C (ndx H s H') s l e → Q .non H'
def spWorths (C : Addr) : Sp := fun vs H Q _ => ∃ (s : Addr) (e : Int) (l : List (Str × Int)), vs = [.ref s] ∧ WishAt C H s l e ∧ (l.map (·.1)).Nodup ∧ l.length ≤ 1000 ∧
  ∀ H' D l', L2.Same H H' → H D = none → H' D = some (.dK (strK V.int l')) → l'.Perm l → Q (.ref D) H'
def negL (l : List (Str × Int)) : List (Str × Int) := l.map fun q => (q.1, -q.2)
def spMirrored (C : Addr) : Sp := fun vs H Q _ => ∃ (s : Addr) (e : Int) (l : List (Str × Int)), vs = [.ref s] ∧ WishAt C H s l e ∧ GoodW l e ∧
  ∀ H' p, L2.Same H H' → H p = none → WishAt C H' p (negL l) (-e) → Q (.ref p) H'
def eqWB (l1 l2 : List (Str × Int)) (e1 e2 : Int) : Bool := decide (e1 = e2)
/-- == where the worths are the same ones -/
def spWishEq (C : Addr) : Sp := fun vs H Q _ => ∃ (a b : Addr) (e1 e2 : Int) (l1 l2 : List (Str × Int)), vs = [.ref a, .ref b] ∧ WishAt C H a l1 e1 ∧ WishAt C H b l2 e2 ∧ l1.Perm l2 ∧ (l1.map (·.1)).Nodup ∧ e1 = e2 ∧ Q (.bl true) H
theorem worthsB_good {l : List (Str × Int)} {e : Int} (g : GoodW l e) : worthsB (strK V.int l) = true := by
  show (decide ((strK V.int l).length ≤ 100) && _) = true
  rw [decide_eq_true (by rw [List.length_map]; have := g.len; omega), Bool.true_and, List.all_map]
  refine List.all_eq_true.mpr fun q hq => ?_
  show (nameV (.str q.1) && valueV (.int q.2)) = true
  have h := g.lo q hq
  have h2 : valueV (.int q.2) = true := by
    show (decide _ && decide _) = true
    rw [decide_eq_true h.1, decide_eq_true h.2]
    rfl
  rw [(g.nm q hq).v, h2]
  rfl
theorem kvFine_int {K : PySem.W.Frag} {H : Hp} {l : List (Str × Int)} (h : ∀ q ∈ l, NameS q.1) : kvFine K H (strK V.int l) := fun p hp => by
  obtain ⟨q, hq, rfl⟩ := List.mem_map.mp hp
  refine ⟨fun z hz => ?_, _, .int _⟩
  cases hz
  have := (h q hq).len
  omega
/-- [e op v for v in list(d.values())] -/
theorem lc_vals {K : PySem.W.Frag} {σ : L2.St} {H : Hp} {Qd : Addr → Hp → Prop} {d : Addr} {l : List (Str × Int)} {e : Int} {g : Int → Int → Bool} {j n : Nat} (hd : Rd H d (.dK (strK V.int l))) (hl : l.length ≤ 1000) (hj : j ≠ n) (hn : n < σ.length)
    (h2 : σ[j]? = some (some (.int e))) (k : ∀ H' D, L2.Same H H' → H D = none → H' D = some (.lst ((l.map fun q => g e q.2).map V.bl)) → Qd D H') :
    rListVA (.ref d) H fun x H1 => RunL K (fun J H1 => ∀ D, H1 D = none → LcP J (gName n) tYes (tOp (rI0 fun i j => V.bl (g i j)) (tVar j) (tVar n)) [n] σ D (Qd D) H1) x H1 := by
  refine x_listv hd fun p1 hp1 => runL (SqL.of upd_same) fun D hD => ?_
  have hp1D : p1 ≠ D := ne_of_none upd_same hD
  have hD0 : H D = none := by rw [upd_ne hp1D.symm] at hD; exact hD
  have eV : (strK V.int l).map Prod.snd = l.map fun q => V.int q.2 := by rw [List.map_map]; rfl
  rw [eV]
  refine lcL (xs := l.map fun q => V.int q.2) (fun t H' => L2.Same H H' ∧ H' p1 = some (.lst (l.map fun q => V.int q.2)) ∧ H' D = some (.lst (((l.take t).map fun q => g e q.2).map V.bl))) ?_ ?_ ?_ ?_
  · exact ⟨same_upd (same_new hp1) hD0, by rw [upd_ne hp1D]; exact upd_same, upd_same⟩
  · exact fun t H' _ h => SqL.of h.2.1
  · rintro t x H' hx ⟨s1, hp, hD1⟩
    rw [List.getElem?_map] at hx
    cases hq : l[t]? with
    | none => rw [hq] at hx; cases hx
    | some q =>
      rw [hq] at hx
      have ex : V.int q.2 = x := Option.some.inj hx
      subst ex
      have hlt : t < l.length := (List.getElem?_eq_some_iff.mp hq).1
      refine x_g1 ⟨?_, x_yes1 (x_T (x_op (x_var (v := .int e) ?_ (x_var (v := .int q.2) ?_ (x_I0 ⟨_, hD1, sz_lt (by simp; omega), same_upd s1 hD0, by rw [upd_ne hp1D]; exact hp, ?_⟩)))))⟩
      · show ((σ.set n none).set n (some (.int q.2))).set n none = σ.set n none
        rw [List.set_set, List.set_set]
      · show ((σ.set n none).set n _)[j]? = _
        rw [List.getElem?_set_ne hj.symm, List.getElem?_set_ne hj.symm]
        exact h2
      · show ((σ.set n none).set n _)[n]? = _
        rw [List.getElem?_set_self (by rw [List.length_set]; exact hn)]
      · rw [upd_same, take_succ_get hq]
        simp
  · rintro H' ⟨s1, hp, hD1⟩
    rw [List.length_map, List.take_length] at hD1
    exact k H' D s1 hD0 hD1
section
variable {P : Program} {w : World} {K : PySem.W.Frag} {mg : Str → Option Value} {base : Heap} {C : Addr}
theorem ok_Wish_init {f : Addr} {fd : FuncData} (F : Fun K "__init__" "Wish.__init__" s_Wish_init f fd) (K_Wish : Cls K C) (N1 : NoAttr K C "table") (N2 : NoAttr K C "endless") (N3 : NoAttr K C "coming") (Z_list : mg "list" = none) (Z_all : mg "all" = none) (Z_sorted : mg "sorted" = none)
    (C_are_worths : Cal P w K mg base 3 "are_worths" ["thing"] (spAreWorths K)) (C_is_value : Cal P w K mg base 2 "is_value" ["thing"] (spIsValue K)) : FnOk P w K mg base CX0 4 f fd ["self", "worths", "endless"] (spWishInit C) := by
  refine F.ok sc_Wish_init (fun vs H Q E h => ?_) (fun cdv A outer s H vs Q E hr h => ?_)
  · obtain ⟨_, _, _, _, _, rfl, _⟩ := h
    rfl
  · obtain ⟨a, d, dx, e, l, rfl, ha, hd, g, k⟩ := h
    have hu := hu_of hr
    refine ⟨_, (pss_cons (ps_if (PW.pt (pw_or (pt_not (pt_val (pe_cal C_are_worths (hr.mono (by decide)) (by rfl) (pa_cons (pv 1) pa_nil)))) (pw_or1 (pt_not (pt_val (pe_cal C_is_value (hr.mono (by decide)) (by rfl) (pa_cons (pv 2) pa_nil)))))))
      (pss_one ps_never)
      pss_nil)
      (pss_cons (ps_set (i := 3) sc_Wish_init.nd rfl (Or.inl rfl) (pe_callB (cr_all rfl) (by rfl) Z_all (by decide +kernel) (pa_cons (pe_lc (own := [("value", 5)]) (g := gName 5) (tt := tYes) (by rfl) sc_Wish_init.nd (pi_list (pe_listV (by rfl) (pv 1) (by rfl) Z_list)) (blkOk_by (own := [("value", 5)]) (N := N_Wish_init) (sc := defScope s_Wish_init) (by decide +kernel)) (fun _ _ _ _ _ => (pg_name (i := 5) sc_Wish_init.nd rfl (Or.inl rfl))) (fun _ _ _ _ _ => pts_nil) (fun _ _ _ _ _ => by exact (pe_cmpR op_le (pv 2) (pv 5) (nomark _)))) pa_nil)))
      (pss_cons (ps_set (i := 4) sc_Wish_init.nd rfl (Or.inl rfl) (pe_callB (cr_all rfl) (by rfl) Z_all (by decide +kernel) (pa_cons (pe_lc (own := [("value", 5)]) (g := gName 5) (tt := tYes) (by rfl) sc_Wish_init.nd (pi_list (pe_listV (by rfl) (pv 1) (by rfl) Z_list)) (blkOk_by (own := [("value", 5)]) (N := N_Wish_init) (sc := defScope s_Wish_init) (by decide +kernel)) (fun _ _ _ _ _ => (pg_name (i := 5) sc_Wish_init.nd rfl (Or.inl rfl))) (fun _ _ _ _ _ => pts_nil) (fun _ _ _ _ _ => by exact (pe_cmpR op_ge (pv 2) (pv 5) (nomark _)))) pa_nil)))
      (pss_cons (ps_if (PW.pt (pw_and (pt_not (pt_val (pv 3))) (pw_and1 (pt_not (pt_val (pv 4))))))
      (pss_one ps_never)
      pss_nil)
      (pss_cons (ps_fld (pv 0) (pe_dc (own := [("name", 6)]) (g := gName 6) (tt := tYes) (by rfl) sc_Wish_init.nd (pi_list (pe_callB (call_sortedDA rfl) (by rfl) Z_sorted (by decide +kernel) (pa_cons (pv 1) pa_nil))) (blkOk_by (own := [("name", 6)]) (N := N_Wish_init) (sc := defScope s_Wish_init) (by decide +kernel)) (fun _ _ _ _ _ => (pg_name (i := 6) sc_Wish_init.nd rfl (Or.inl rfl))) (fun _ _ _ _ _ => pts_nil) (fun _ _ _ _ _ => by exact (pv 6)) (fun _ _ _ _ _ => by exact (pe_dget hu (pv 1) (pv 6) (fun _ _ => rfl)))) rfl)
      (pss_cons (ps_fld (pv 0) (pv 2) rfl)
      (pss_one (ps_fld (pv 0) (pv 3) rfl)))))))), ?_⟩
    walk_at "go"
    refine .inl ⟨d, _, rfl, hd, kvFine_int g.nm, fun H1 s1 => ?_⟩
    rw [worthsB_good g]
    walk_at "go"
    refine ⟨_, _, rfl, .int e, ?_⟩
    have ev : valueV (.int e) = true := by
      show (decide _ && decide _) = true
      rw [decide_eq_true g.elo.1, decide_eq_true g.elo.2]
      rfl
    rw [ev]
    walk_at "go"
    have hll : l.length ≤ 1000 := by have := g.len; omega
    have hd1 := s1 d _ hd
    refine lc_vals (j := 2) (n := 5) (e := e) (g := fun i j => decide (i ≤ j)) (.inl hd1) hll (by decide) ?hn rfl fun H2 D s2 hD hD2 => ?_
    case hn => exact (by decide : 5 < 7)
    walk_at "go"
    refine ⟨D, _, rfl, SqL.of hD2, ?_⟩
    have eb : (List.map (fun q : Str × Int => decide (e ≤ q.2)) l).all id = comingB l e := by rw [List.all_map]; rfl
    rw [eb]
    walk_at "go"
    have hd2 := s2 d _ hd1
    refine lc_vals (j := 2) (n := 5) (e := e) (g := fun i j => decide (j ≤ i)) (.inl hd2) hll (by decide) ?hn rfl fun H3 D3 s3 hD3 hD33 => ?_
    case hn => exact (by decide : 5 < 7)
    walk_at "go"
    refine ⟨D3, _, rfl, SqL.of hD33, ?_⟩
    walk_at "go"
    have hd3 := s3 d _ hd2
    have s13 : L2.Same H H3 := (s1.trans s2).trans s3
    refine x_ite (fun h1 => ?_) (fun h1 => ?_)
    focus
      walk_at "go"
      refine x_ite (fun h2 => ?_) (fun h2 => ?_)
    focus
      exfalso
      rcases g.side with h | h
      · have : comingB l e = true := List.all_eq_true.mpr fun q hq => decide_eq_true (h q hq)
        rw [this] at h1
        cases h1
      · have : (List.map (fun q : Str × Int => decide (q.2 ≤ e)) l).all id = true := by
          rw [List.all_map]
          exact List.all_eq_true.mpr fun q hq => decide_eq_true (h q hq)
        rw [this] at h2
        cases h2
    all_goals walk_at "go"
    all_goals
      have ek : (strK V.int l).map (·.1) = (l.map (·.1)).map Sum.inr := by rw [List.map_map, List.map_map]; rfl
      refine ⟨d, _, l.map (·.1), rfl, .inl hd3, ek, by rw [List.length_map]; have := g.len; omega, fun ys q hperm hsort hq => runL (SqL.of upd_same) fun D4 hD4 => ?_⟩
      have hq4 : q ≠ D4 := ne_of_none upd_same hD4
      have hD40 : H3 D4 = none := by rw [upd_ne hq4.symm] at hD4; exact hD4
      have ynd : ys.Nodup := (hperm.nodup_iff).mpr g.nd
      have ylen : ys.length = l.length := by rw [hperm.length_eq, List.length_map]
      refine dcL (xs := ys.map V.str) (fun t H' => L2.Same H3 H' ∧ H' q = some (.lst (ys.map V.str)) ∧ H' D4 = some (.dK (strK V.int ((ys.take t).map fun z => (z, (l.lookup z).getD 0))))) ?_ ?_ ?_ ?_
      · exact ⟨same_upd (same_new hq) hD40, by rw [upd_ne hq4]; exact upd_same, upd_same⟩
      · exact fun t H' _ h => SqL.of h.2.1
      · rintro t x H' hx ⟨s4, hq1, hD41⟩
        rw [List.getElem?_map] at hx
        cases hz : ys[t]? with
        | none => rw [hz] at hx; cases hx
        | some z =>
          rw [hz] at hx
          have ex : V.str z = x := Option.some.inj hx
          subst ex
          have hlt : t < ys.length := (List.getElem?_eq_some_iff.mp hz).1
          have hzm : z ∈ l.map (·.1) := hperm.mem_iff.mp (List.mem_of_getElem? hz)
          obtain ⟨xz, hxz⟩ := lookup_isSome hzm
          walk_at "go"
          refine ⟨rfl, ?_⟩
          walk_at "go"
          refine x_getS (kvs := strK V.int l) (.inl (s4 d _ hd3)) (v := .int xz) (by rw [strK_look, hxz]; rfl) ?_
          refine ⟨_, Sum.inr z, rfl, hD41, sz_lt (by simp; omega), same_upd s4 hD40, by rw [upd_ne hq4]; exact hq1, ?_⟩
          rw [upd_same, strK_put, putL_new, take_succ_get hz, List.map_append]
          · simp [hxz]
          · rw [List.map_map]
            intro hm
            obtain ⟨z', hz', e'⟩ := List.mem_map.mp hm
            have e2 : z' = z := e'
            subst e2
            obtain ⟨i, hi, he⟩ := List.getElem_of_mem hz'
            have hi2 : i < t := by simp at hi; omega
            have h5 : ys[i]? = some z' := by
              rw [List.getElem_take] at he
              rw [List.getElem?_eq_getElem (by omega), he]
            have := L2.nd_ix ynd h5 hz
            omega
      · rintro H4 ⟨s4, hq1, hD41⟩
        rw [List.length_map, List.take_length] at hD41
        have s14 : L2.Same H H4 := s13.trans s4
        have aD : a ≠ D4 := fun z => by rw [z] at ha; rw [s13 _ _ ha] at hD40; cases hD40
        walk_at "go"
        refine x_sf K_Wish N1 (s14 _ _ ha) (by decide) ?_
        walk_at "go"
        refine x_sf K_Wish N2 upd_same (Nat.lt_of_le_of_lt (length_putF _ _ _) (by show 0 + 1 < 1000; decide)) ?_
        walk_at "go"
        refine x_sf K_Wish N3 upd_same (Nat.lt_of_le_of_lt (length_putF _ _ _) (Nat.lt_of_le_of_lt (Nat.succ_le_succ (length_putF _ _ _)) (by show 0 + 1 + 1 < 1000; decide))) ?_
        refine k _ (fun b o e n => ?_) ⟨⟨dx, D4, ys.map fun z => (z, (l.lookup z).getD 0), ?_, ?_, table_perm g.nd hperm 0, ?_⟩⟩
        · rw [upd_ne n, upd_ne n, upd_ne n]
          exact s14 b o e
        · rw [ndx_at, upd_same]
          rfl
        · rw [ndx_ne aD.symm, nd_new (by
            cases e : H D4 with
            | none => rfl
            | some o => rw [s13 _ _ e] at hD40; cases hD40), upd_ne aD.symm, upd_ne aD.symm, upd_ne aD.symm]
          exact hD41
        · rw [List.map_map]
          have : ((fun x : Str × Int => x.1) ∘ fun z => (z, (l.lookup z).getD 0)) = id := rfl
          rw [this, List.map_id]
          exact hsort
theorem ok_Wish_worths {f : Addr} {fd : FuncData} (F : Fun K "worths" "Wish.worths" s_Wish_worths f fd) (K_Wish : Cls K C) (N1 : NoAttr K C "table") : FnOk P w K mg base CX0 1 f fd ["self"] (spWorths C) := by
  refine F.ok sc_Wish_worths (fun vs H Q E h => ?_) (fun cdv A outer s H vs Q E hr h => ?_)
  · obtain ⟨_, _, _, rfl, _⟩ := h
    rfl
  · obtain ⟨a, e, l, rfl, hW, hnd, hlen, k⟩ := h
    obtain ⟨dx, t, l', ha, ht, hp, _⟩ := hW.ex
    have hu := hu_of hr
    have hnd' : (l'.map (·.1)).Nodup := (List.Perm.nodup_iff (hp.map _)).mpr hnd
    have hat : a ≠ t := ne_of ha ht (by intro z; cases z)
    refine ⟨_, (pss_one (ps_ret (pe_lock (pe_dc (own := [("name", 1)]) (g := gName 1) (tt := tYes) (by rfl) sc_Wish_worths.nd (pi_keys (pe_fld (pv 0) rfl)) (blkOk_by (own := [("name", 1)]) (N := N_Wish_worths) (sc := defScope s_Wish_worths) (by decide +kernel)) (fun _ _ _ _ _ => (pg_name (i := 1) sc_Wish_worths.nd rfl (Or.inl rfl))) (fun _ _ _ _ _ => pts_nil) (fun _ _ _ _ _ => by exact (pv 1)) (fun _ _ _ _ _ => by exact (pe_dget hu (pe_fldK (K := K) (pv 0) (by rfl)) (pv 1) (fun _ _ => rfl))))))), ?_⟩
    walk_at "go"
    refine x_lockE ht trivial fun od => ?_
    have ha1 : (upd H t (.frz od (.dK (strK V.int l')))) a = some (.ins C dx (wF t e (comingB l e))) := by rw [upd_ne hat]; exact ha
    walk_at "go"
    refine x_fld K_Wish N1 ha1 (wF_table _ _ _) ?_
    refine runK upd_same ?_
    intro D hD
    have hDt : D ≠ t := fun z => by rw [z, upd_same] at hD; cases hD
    have hD0 : H D = none := by rw [upd_ne hDt] at hD; exact hD
    refine dcK (kvs := strK V.int l') (fun i H' => L2.Same (upd H t (.frz od (.dK (strK V.int l')))) H' ∧ H' D = some (.dK (strK V.int (l'.take i)))) ?_ ?_ ?_ ?_
    · exact ⟨same_new hD, upd_same⟩
    · exact fun i H' _ h => h.1 t _ upd_same
    · rintro i k0 v0 H' hi ⟨s1, hD1⟩
      obtain ⟨z, x, rfl, rfl, hlx⟩ := strK_at hi
      have hlt : i < l'.length := (List.getElem?_eq_some_iff.mp hlx).1
      walk_at "go"
      refine ⟨rfl, ?_⟩
      walk_at "go"
      refine x_fld K_Wish N1 (s1 _ _ ha1) (wF_table _ _ _) ?_
      walk_at "go"
      refine x_getS (kvs := strK V.int l') (.inr ⟨od, s1 t _ upd_same⟩) (strK_val hnd' hlx) ?_
      refine ⟨_, Sum.inr z, rfl, hD1, sz_lt (by have := hp.length_eq; simp; omega), same_upd s1 hD, ?_⟩
      rw [upd_same, strK_put, putL_new, take_succ_get hlx]
      intro hm
      obtain ⟨p', hp', e'⟩ := List.mem_map.mp hm
      obtain ⟨j, hj, he⟩ := List.getElem_of_mem hp'
      have hj2 : j < i := by simp at hj; omega
      have h5 : (l'.map (·.1))[j]? = some z := by
        rw [List.getElem_take] at he
        rw [List.getElem?_map, List.getElem?_eq_getElem (by omega), he]
        exact congrArg some e'
      have h6 : (l'.map (·.1))[i]? = some z := by rw [List.getElem?_map, hlx]; rfl
      have := L2.nd_ix hnd' h5 h6
      omega
    · rintro H4 ⟨s1, hD1⟩
      have eL : (strK V.int l').length = l'.length := List.length_map ..
      rw [eL, List.take_length] at hD1
      refine ⟨s1 t _ upd_same, ?_⟩
      refine k _ D l' (fun b o e => ?_) hD0 (by rw [upd_ne hDt]; exact hD1) hp
      by_cases hbt : b = t
      · subst hbt
        rw [ht] at e
        rw [upd_same, e]
      · rw [upd_ne hbt]
        exact s1 b o (by rw [upd_ne hbt]; exact e)
end
/-! ### wishes turned (as in wish3) -/
theorem negL_keys (l : List (Str × Int)) : (negL l).map (·.1) = l.map (·.1) := by
  unfold negL
  rw [List.map_map]
  rfl
theorem GoodW.neg {l : List (Str × Int)} {e : Int} (g : GoodW l e) : GoodW (negL l) (-e) where
  nd := by rw [negL_keys]; exact g.nd
  len := by unfold negL; rw [List.length_map]; exact g.len
  nm := fun q hq => by obtain ⟨p, hp, rfl⟩ := List.mem_map.mp hq; exact g.nm p hp
  lo := fun q hq => by obtain ⟨p, hp, rfl⟩ := List.mem_map.mp hq; have := g.lo p hp; exact ⟨by show -99 ≤ -p.2; omega, by show -p.2 ≤ 99; omega⟩
  elo := by have := g.elo; omega
  side := by
    rcases g.side with h | h
    · exact .inr fun q hq => by obtain ⟨p, hp, rfl⟩ := List.mem_map.mp hq; have := h p hp; show -p.2 ≤ -e; omega
    · exact .inl fun q hq => by obtain ⟨p, hp, rfl⟩ := List.mem_map.mp hq; have := h p hp; show -e ≤ -p.2; omega
theorem GoodW.perm {l l' : List (Str × Int)} {e : Int} (g : GoodW l e) (hp : l'.Perm l) : GoodW l' e where
  nd := (List.Perm.nodup_iff (hp.map _)).mpr g.nd
  len := by rw [hp.length_eq]; exact g.len
  nm := fun q hq => g.nm q (hp.mem_iff.mp hq)
  lo := fun q hq => g.lo q (hp.mem_iff.mp hq)
  elo := g.elo
  side := by
    rcases g.side with h | h
    · exact .inl fun q hq => h q (hp.mem_iff.mp hq)
    · exact .inr fun q hq => h q (hp.mem_iff.mp hq)
theorem all_perm {α : Type} {l l' : List α} (hp : l'.Perm l) (f : α → Bool) : l'.all f = l.all f := by
  cases e : l.all f with
  | true => exact List.all_eq_true.mpr fun x hx => List.all_eq_true.mp e x (hp.mem_iff.mp hx)
  | false =>
    cases e2 : l'.all f with
    | false => rfl
    | true =>
      have : l.all f = true := List.all_eq_true.mpr fun x hx => List.all_eq_true.mp e2 x (hp.mem_iff.mpr hx)
      rw [e] at this
      cases this
theorem WishAt.perm {C : Addr} {H : Hp} {p : Addr} {l l' : List (Str × Int)} {e : Int} (h : WishAt C H p l e) (hp : l.Perm l') : WishAt C H p l' e := by
  obtain ⟨dx, t, l2, h1, h2, h3, h4⟩ := h.ex
  refine ⟨⟨dx, t, l2, ?_, h2, h3.trans hp, h4⟩⟩
  have : comingB l' e = comingB l e := (all_perm hp _).symm
  rw [this]
  exact h1
/-! ### works' tables compared -/
/-- two tables of the same keys, alike at each -/
def SameA {α : Type} (eq : α → α → Bool) (l l' : List (Str × α)) : Prop := ∀ z, match l.lookup z, l'.lookup z with
  | some x, some y => eq x y = true
  | none, none => True
  | _, _ => False
def eqA {α : Type} (eq : α → α → Bool) (l l' : List (Str × α)) : Bool := (l.length == l'.length) && l.all fun q => match l'.lookup q.1 with
  | some y => eq q.2 y
  | none => false
theorem eqA_iff {α : Type} {eq : α → α → Bool} {l l' : List (Str × α)} (nd : (l.map (·.1)).Nodup) (nd' : (l'.map (·.1)).Nodup) : eqA eq l l' = true ↔ SameA eq l l' := by
  unfold eqA
  rw [Bool.and_eq_true, List.all_eq_true, beq_iff_eq]
  constructor
  · rintro ⟨hl, ha⟩ z
    have sub : ∀ y ∈ l.map (·.1), y ∈ l'.map (·.1) := fun y hy => by
      obtain ⟨q, hq, rfl⟩ := List.mem_map.mp hy
      have := ha q hq
      cases e : l'.lookup q.1 with
      | none => rw [e] at this; cases this
      | some y => exact List.mem_map.mpr ⟨_, lookup_mem e, rfl⟩
    cases e : l.lookup z with
    | some x =>
      have := ha _ (lookup_mem e)
      dsimp only at this
      cases e2 : l'.lookup z with
      | none => rw [e2] at this; cases this
      | some y => rw [e2] at this; exact this
    | none =>
      cases e2 : l'.lookup z with
      | none => trivial
      | some y =>
        have nz : z ∉ l.map (·.1) := fun h => by
          obtain ⟨v, hv⟩ := lookup_isSome h
          rw [e] at hv
          cases hv
        have hz : z ∈ l'.map (·.1) := List.mem_map.mpr ⟨_, lookup_mem e2, rfl⟩
        have h1 : (z :: l.map (·.1)).Nodup := List.nodup_cons.mpr ⟨nz, nd⟩
        have := List.Nodup.length_le_of_subset h1 (l₂ := l'.map (·.1)) fun y hy => (List.mem_cons.mp hy).elim (fun e => by rw [e]; exact hz) (sub y)
        rw [List.length_cons, List.length_map, List.length_map] at this
        omega
  · intro h
    have sub : ∀ y, y ∈ l.map (·.1) ↔ y ∈ l'.map (·.1) := fun y => by
      have := h y
      constructor
      · intro hy
        obtain ⟨v, hv⟩ := lookup_isSome hy
        rw [hv] at this
        cases e : l'.lookup y with
        | none => rw [e] at this; exact this.elim
        | some u => exact List.mem_map.mpr ⟨_, lookup_mem e, rfl⟩
      · intro hy
        obtain ⟨v, hv⟩ := lookup_isSome hy
        rw [hv] at this
        cases e : l.lookup y with
        | none => rw [e] at this; exact this.elim
        | some u => exact List.mem_map.mpr ⟨_, lookup_mem e, rfl⟩
    have pm := (List.perm_ext_iff_of_nodup nd nd').mpr sub
    refine ⟨by have := pm.length_eq; rwa [List.length_map, List.length_map] at this, fun q hq => ?_⟩
    have := h q.1
    rw [lookup_of nd hq] at this
    cases e : l'.lookup q.1 with
    | none => rw [e] at this; exact this.elim
    | some y => rw [e] at this; exact this
theorem SameA.symm {α : Type} {eq : α → α → Bool} {l l' : List (Str × α)} (hs : ∀ x y, eq x y = true → eq y x = true) (h : SameA eq l l') : SameA eq l' l := fun z => by
  have := h z
  cases e : l.lookup z with
  | none => cases e2 : l'.lookup z with
    | none => trivial
    | some y => rw [e, e2] at this; exact this.elim
  | some x => cases e2 : l'.lookup z with
    | none => rw [e, e2] at this; exact this.elim
    | some y => rw [e, e2] at this; exact hs x y this
theorem SameA.trans {α : Type} {eq : α → α → Bool} {l l' l'' : List (Str × α)} (ht : ∀ x y z, eq x y = true → eq y z = true → eq x z = true) (h : SameA eq l l') (h' : SameA eq l' l'') : SameA eq l l'' := fun z => by
  have h1 := h z
  have h2 := h' z
  cases e : l.lookup z with
  | none => cases e2 : l'.lookup z with
    | none => rw [e2] at h2; cases e3 : l''.lookup z with
      | none => trivial
      | some y => rw [e3] at h2; exact h2.elim
    | some y => rw [e, e2] at h1; exact h1.elim
  | some x => cases e2 : l'.lookup z with
    | none => rw [e, e2] at h1; exact h1.elim
    | some y =>
      rw [e, e2] at h1
      rw [e2] at h2
      cases e3 : l''.lookup z with
      | none => rw [e3] at h2; exact h2.elim
      | some u => rw [e3] at h2; exact ht x y u h1 h2
theorem SameA.refl {α : Type} {eq : α → α → Bool} {l : List (Str × α)} (hr : ∀ x, eq x x = true) : SameA eq l l := fun z => by
  cases e : l.lookup z with
  | none => trivial
  | some x => exact hr x
def eqPr (p q : Str × Int) : Bool := (p.1 == q.1) && (p.2 == q.2)
theorem eqPr_iff {p q : Str × Int} : eqPr p q = true ↔ p = q := by
  unfold eqPr
  rw [Bool.and_eq_true, beq_iff_eq, beq_iff_eq]
  exact ⟨fun h => Prod.ext h.1 h.2, fun h => by rw [h]; exact ⟨rfl, rfl⟩⟩
def eqSd : Sd → Sd → Bool
  | .fin, .fin => true
  | .chance l, .chance l' => eqA eqPr l l'
  | .hand k l, .hand k' l' => (k == k') && eqA (· == ·) l l'
  | _, _ => false
/-- the steps' names are different ones -/
def NdS : Sd → Prop
  | .fin => True
  | .chance l => (l.map (·.1)).Nodup
  | .hand _ l => (l.map (·.1)).Nodup
theorem GoodSd.ndS {h : Int} {ns : List Str} {x : Sd} (g : GoodSd h ns x) : NdS x := by
  cases x with
  | fin => trivial
  | chance l => exact g.1
  | hand k l => exact g.2.2.1
theorem lookup_fun {m m' : List (Str × Addr)} (h : strK V.ref m = strK V.ref m') : m = m' := by
  induction m generalizing m' with
  | nil => cases m' with
    | nil => rfl
    | cons q r => cases h
  | cons p r ih =>
    cases m' with
    | nil => cases h
    | cons q r' =>
      have h2 : ((Sum.inr p.1 : Key), V.ref p.2) :: strK V.ref r = (Sum.inr q.1, V.ref q.2) :: strK V.ref r' := h
      injection h2 with h3 h4
      injection h3 with h5 h6
      injection h5 with h7
      injection h6 with h8
      rw [Prod.ext (x := p) (y := q) h7 h8, ih h4]
theorem eqd_dict {α : Type} {R : Hp → Addr → α → Prop} {eq : α → α → Bool} {K : PySem.W.Frag} {H : Hp} {n : Nat} {d d' : Addr} {l l' : List (Str × α)} (hR : ∀ a b x y, R H a x → R H b y → (∃ z, l.lookup z = some x) → (∃ z, l'.lookup z = some y) → Eqd K H n (.ref a) (.ref b) (eq x y))
    (hF : ∀ a x y, R H a x → R H a y → (∃ z, l.lookup z = some x) → (∃ z, l'.lookup z = some y) → eq x y = true) (nd : (l.map (·.1)).Nodup) (nd' : (l'.map (·.1)).Nodup) (h : DictOf R H d l) (h' : DictOf R H d' l') : Eqd K H (n + 1) (.ref d) (.ref d') (eqA eq l l') := by
  obtain ⟨m, m1, m2, m3⟩ := h.ex
  obtain ⟨m', m1', m2', m3'⟩ := h'.ex
  have ndm : (m.map (·.1)).Nodup := by rw [m2]; exact nd
  have ndm' : (m'.map (·.1)).Nodup := by rw [m2']; exact nd'
  refine .dct (e := fun k => match k with
    | .inr z => (match l.lookup z, l'.lookup z with
      | some x, some y => eq x y
      | _, _ => true)
    | .inl _ => true) (.inl m1) (.inl m1') (fun k v u hk hu => ?_) (fun e => ?_) ?_
  · obtain ⟨q, hq, e⟩ := List.mem_map.mp hk
    cases e
    rw [strK_look] at hu
    cases e2 : m'.lookup q.1 with
    | none => rw [e2] at hu; cases hu
    | some b =>
      rw [e2] at hu
      cases hu
      obtain ⟨x, hx, rx⟩ := m3 q.1 q.2 hq
      obtain ⟨y, hy, ry⟩ := m3' q.1 b (lookup_mem e2)
      show Eqd K H n (.ref q.2) (.ref b) (match l.lookup q.1, l'.lookup q.1 with
        | some x, some y => eq x y
        | _, _ => true)
      rw [hx, hy]
      exact hR _ _ _ _ rx ry ⟨_, hx⟩ ⟨_, hy⟩
  · subst e
    rw [m1] at m1'
    have em : m = m' := lookup_fun (by injection m1' with e1; injection e1)
    subst em
    refine (eqA_iff nd nd').mpr fun z => ?_
    by_cases hz : z ∈ m.map (·.1)
    · obtain ⟨a, ha⟩ := lookup_isSome hz
      obtain ⟨x, hx, rx⟩ := m3 z a (lookup_mem ha)
      obtain ⟨y, hy, ry⟩ := m3' z a (lookup_mem ha)
      rw [hx, hy]
      exact hF a x y rx ry ⟨_, hx⟩ ⟨_, hy⟩
    · have e1 : l.lookup z = none := lookup_none (by rw [← m2]; exact hz)
      have e2 : l'.lookup z = none := lookup_none (by rw [← m2']; exact hz)
      rw [e1, e2]
      trivial
  · have ll : m.length = l.length := by have := congrArg List.length m2; rwa [List.length_map, List.length_map] at this
    have ll' : m'.length = l'.length := by have := congrArg List.length m2'; rwa [List.length_map, List.length_map] at this
    unfold eqA
    rw [List.length_map, List.length_map, ll, ll']
    congr 1
    have key : ∀ (z : Str), z ∈ m.map (·.1) → ((valV (strK V.ref m') (Sum.inr z)).isSome && (match l.lookup z, l'.lookup z with
        | some x, some y => eq x y
        | _, _ => true)) = (match l.lookup z, l'.lookup z with
        | some x, some y => eq x y
        | _, _ => false) := fun z hz => by
      rw [strK_look]
      obtain ⟨x, hx⟩ := lookup_isSome (l := l) (by rw [← m2]; exact hz)
      rw [hx]
      cases e : m'.lookup z with
      | some b =>
        obtain ⟨y, hy, _⟩ := m3' z b (lookup_mem e)
        rw [hy]
        rfl
      | none =>
        have : l'.lookup z = none := lookup_none fun h => by
          rw [← m2'] at h
          obtain ⟨v, hv⟩ := lookup_isSome h
          rw [e] at hv
          cases hv
        rw [this]
        rfl
    have e1 : ((strK V.ref m).all fun p => (valV (strK V.ref m') p.1).isSome && (match p.1 with
        | .inr z => (match l.lookup z, l'.lookup z with
          | some x, some y => eq x y
          | _, _ => true)
        | .inl _ => true)) = (m.map (·.1)).all fun z => (match l.lookup z, l'.lookup z with
        | some x, some y => eq x y
        | _, _ => false) := by
      rw [List.all_map, List.all_map]
      refine Bool.eq_iff_iff.mpr ?_
      rw [List.all_eq_true, List.all_eq_true]
      exact forall_congr' fun q => forall_congr' fun hq => by
        have := key q.1 (List.mem_map.mpr ⟨q, hq, rfl⟩)
        show (((valV (strK V.ref m') (Sum.inr q.1)).isSome && _) = true ↔ _)
        rw [this]
        rfl
    rw [e1, m2, List.all_map]
    refine Bool.eq_iff_iff.mpr ?_
    rw [List.all_eq_true, List.all_eq_true]
    exact forall_congr' fun q => forall_congr' fun hq => by
      show ((match l.lookup q.1, l'.lookup q.1 with | some x, some y => eq x y | _, _ => false) = true ↔ (match l'.lookup q.1 with | some y => eq q.2 y | none => false) = true)
      rw [lookup_of nd hq]
      cases l'.lookup q.1 <;> exact Iff.rfl
/-! ### works' tables compared (further) -/
theorem dict_fun {α : Type} {R : Hp → Addr → α → Prop} {eq : α → α → Bool} {H : Hp} {d : Addr} {l l' : List (Str × α)} (hF : ∀ a x y, R H a x → R H a y → (∃ z, l.lookup z = some x) → (∃ z, l'.lookup z = some y) → eq x y = true) (nd : (l.map (·.1)).Nodup) (nd' : (l'.map (·.1)).Nodup)
    (h : DictOf R H d l) (h' : DictOf R H d l') : eqA eq l l' = true := by
  obtain ⟨m, m1, m2, m3⟩ := h.ex
  obtain ⟨m', m1', m2', m3'⟩ := h'.ex
  rw [m1] at m1'
  have em : m = m' := lookup_fun (by injection m1' with e1; injection e1)
  subst em
  refine (eqA_iff nd nd').mpr fun z => ?_
  by_cases hz : z ∈ m.map (·.1)
  · obtain ⟨a, ha⟩ := lookup_isSome hz
    obtain ⟨x, hx, rx⟩ := m3 z a (lookup_mem ha)
    obtain ⟨y, hy, ry⟩ := m3' z a (lookup_mem ha)
    rw [hx, hy]
    exact hF a x y rx ry ⟨_, hx⟩ ⟨_, hy⟩
  · have e1 : l.lookup z = none := lookup_none (by rw [← m2]; exact hz)
    have e2 : l'.lookup z = none := lookup_none (by rw [← m2']; exact hz)
    rw [e1, e2]
    trivial
theorem eqd_vals {α : Type} {f : α → V} {eq : α → α → Bool} {K : PySem.W.Frag} {H : Hp} {n : Nat} {d d' : Addr} {l l' : List (Str × α)} (hR : ∀ x y, Eqd K H n (f x) (f y) (eq x y)) (hF : ∀ x y, f x = f y → eq x y = true) (nd : (l.map (·.1)).Nodup) (nd' : (l'.map (·.1)).Nodup)
    (h : H d = some (.dK (strK f l))) (h' : H d' = some (.dK (strK f l'))) : Eqd K H (n + 1) (.ref d) (.ref d') (eqA eq l l') := by
  refine .dct (e := fun k => match k with
    | .inr z => (match l.lookup z, l'.lookup z with
      | some x, some y => eq x y
      | _, _ => true)
    | .inl _ => true) (.inl h) (.inl h') (fun k v u hk hu => ?_) (fun e => ?_) ?_
  · obtain ⟨q, hq, e⟩ := List.mem_map.mp hk
    cases e
    rw [strK_look] at hu
    cases e2 : l'.lookup q.1 with
    | none => rw [e2] at hu; cases hu
    | some b =>
      rw [e2] at hu
      cases hu
      show Eqd K H n (f q.2) (f b) (match l.lookup q.1, l'.lookup q.1 with
        | some x, some y => eq x y
        | _, _ => true)
      rw [lookup_of nd hq, e2]
      exact hR _ _
  · subst e
    rw [h] at h'
    have e1 : strK f l = strK f l' := by injection h' with e1; injection e1
    refine (eqA_iff nd nd').mpr fun z => ?_
    have e2 : (l.lookup z).map f = (l'.lookup z).map f := by rw [← strK_look, ← strK_look, e1]
    cases e3 : l.lookup z with
    | none => cases e4 : l'.lookup z with
      | none => trivial
      | some y => rw [e3, e4] at e2; cases e2
    | some x => cases e4 : l'.lookup z with
      | none => rw [e3, e4] at e2; cases e2
      | some y => rw [e3, e4] at e2; exact hF x y (Option.some.inj e2)
  · unfold eqA
    rw [List.length_map, List.length_map]
    congr 1
    rw [List.all_map]
    refine Bool.eq_iff_iff.mpr ?_
    rw [List.all_eq_true, List.all_eq_true]
    exact forall_congr' fun q => forall_congr' fun hq => by
      show (((valV (strK f l') (Sum.inr q.1)).isSome && (match l.lookup q.1, l'.lookup q.1 with | some x, some y => eq x y | _, _ => true)) = true ↔ (match l'.lookup q.1 with | some y => eq q.2 y | none => false) = true)
      rw [strK_look, lookup_of nd hq]
      cases l'.lookup q.1 <;> simp
theorem pair_eqd {K : PySem.W.Frag} {H : Hp} {n : Nat} {a b : Addr} {x y : Str × Int} (h1 : PairAt H a x) (h2 : PairAt H b y) : Eqd K H (n + 1) (.ref a) (.ref b) (eqPr x y) := by
  refine .tup (e := fun j => if j = 0 then x.1 == y.1 else x.2 == y.2) (SqT.of h1) (SqT.of h2) (fun j u v hu hv hp => ?_) (fun e => ?_) ?_
  · match j, hu, hv with
    | 0, hu, hv => cases hu; cases hv; exact .str _ _
    | 1, hu, hv => cases hu; cases hv; exact .int _ _
    | j + 2, hu, hv => cases hu
  · subst e
    have h1 : H a = some (.tup [.str x.1, .int x.2]) := h1
    have h2 : H a = some (.tup [.str y.1, .int y.2]) := h2
    rw [h1] at h2
    injection h2 with h2
    injection h2 with h2
    injection h2 with h3 h4
    injection h3 with h3
    injection h4 with h4
    injection h4 with h4
    exact eqPr_iff.mpr (Prod.ext h3 h4)
  · simp [eqPr, List.range_succ]
theorem pair_fun {H : Hp} {a : Addr} {x y : Str × Int} (h1 : PairAt H a x) (h2 : PairAt H a y) : eqPr x y = true := by
  have h1 : H a = some (.tup [.str x.1, .int x.2]) := h1
  have h2 : H a = some (.tup [.str y.1, .int y.2]) := h2
  rw [h1] at h2
  injection h2 with h2
  injection h2 with h2
  injection h2 with h3 h4
  injection h3 with h3
  injection h4 with h4
  injection h4 with h4
  exact eqPr_iff.mpr (Prod.ext h3 h4)
theorem sd_fun {H : Hp} {a : Addr} {x y : Sd} (n1 : NdS x) (n2 : NdS y) (h1 : SdAt H a x) (h2 : SdAt H a y) : eqSd x y = true := by
  cases x with
  | fin =>
    have h1 : H a = some (.tup [.str "end"]) := h1
    cases y with
    | fin => rfl
    | chance l => obtain ⟨d, e, _⟩ := h2; rw [h1] at e; cases e
    | hand k l => obtain ⟨d, e, _⟩ := h2; rw [h1] at e; cases e
  | chance l =>
    obtain ⟨d, e1, t1⟩ := h1
    cases y with
    | fin => have h2 : H a = some (.tup [.str "end"]) := h2; rw [h2] at e1; cases e1
    | chance l' =>
      obtain ⟨d', e2, t2⟩ := h2
      rw [e1] at e2
      have ed : d = d' := by injection e2 with e2; injection e2 with e2; injection e2 with _ e2; injection e2 with e2; injection e2
      subst ed
      exact dict_fun (fun a x y r1 r2 _ _ => pair_fun r1 r2) n1 n2 t1 t2
    | hand k l' => obtain ⟨d', e2, _⟩ := h2; rw [e1] at e2; cases e2
  | hand k l =>
    obtain ⟨d, e1, t1⟩ := h1
    cases y with
    | fin => have h2 : H a = some (.tup [.str "end"]) := h2; rw [h2] at e1; cases e1
    | chance l' => obtain ⟨d', e2, _⟩ := h2; rw [e1] at e2; cases e2
    | hand k' l' =>
      obtain ⟨d', e2, t2⟩ := h2
      rw [e1] at e2
      injection e2 with e2
      injection e2 with e2
      injection e2 with _ e2
      injection e2 with ek e2
      injection e2 with e2 _
      injection ek with ek
      injection e2 with e2
      subst e2 ek
      rw [t1] at t2
      have e3 : strK V.str l = strK V.str l' := by injection t2 with t2; injection t2
      show ((k == k) && eqA _ l l') = true
      rw [beq_self_eq_true, Bool.true_and]
      refine (eqA_iff n1 n2).mpr fun z => ?_
      have e4 : (l.lookup z).map V.str = (l'.lookup z).map V.str := by rw [← strK_look, ← strK_look, e3]
      cases e5 : l.lookup z with
      | none => cases e6 : l'.lookup z with
        | none => trivial
        | some y => rw [e5, e6] at e4; cases e4
      | some x => cases e6 : l'.lookup z with
        | none => rw [e5, e6] at e4; cases e4
        | some y => rw [e5, e6] at e4; exact beq_iff_eq.mpr (V.str.inj (Option.some.inj e4))
theorem sd_eqd {K : PySem.W.Frag} {H : Hp} {n : Nat} {a b : Addr} {x y : Sd} (n1 : NdS x) (n2 : NdS y) (h1 : SdAt H a x) (h2 : SdAt H b y) : Eqd K H (n + 3) (.ref a) (.ref b) (eqSd x y) := by
  have ab : a = b → eqSd x y = true := fun e => by subst e; exact sd_fun n1 n2 h1 h2
  cases x with
  | fin =>
    have h1 : H a = some (.tup [.str "end"]) := h1
    cases y with
    | fin =>
      have h2 : H b = some (.tup [.str "end"]) := h2
      refine .tup (e := fun _ => true) (SqT.of h1) (SqT.of h2) (fun j u v hu hv hp => ?_) ab rfl
      match j, hu, hv with
      | 0, hu, hv => cases hu; cases hv; have := Eqd.str (K := K) (H := H) (n := n + 2) "end" "end"; rwa [beq_self_eq_true] at this
      | j + 1, hu, hv => cases hu
    | chance l =>
      obtain ⟨d, e2, _⟩ := h2
      refine .tup (e := fun _ => ("end" : Str) == "chance") (SqT.of h1) (SqT.of e2) (fun j u v hu hv hp => ?_) ab (Bool.and_false _)
      match j, hu, hv with
      | 0, hu, hv => cases hu; cases hv; exact .str _ _
      | j + 1, hu, hv => cases hu
    | hand k l =>
      obtain ⟨d, e2, _⟩ := h2
      refine .tup (e := fun _ => ("end" : Str) == "hand") (SqT.of h1) (SqT.of e2) (fun j u v hu hv hp => ?_) ab (Bool.and_false _)
      match j, hu, hv with
      | 0, hu, hv => cases hu; cases hv; exact .str _ _
      | j + 1, hu, hv => cases hu
  | chance l =>
    obtain ⟨d, e1, t1⟩ := h1
    cases y with
    | fin =>
      have h2 : H b = some (.tup [.str "end"]) := h2
      refine .tup (e := fun _ => ("chance" : Str) == "end") (SqT.of e1) (SqT.of h2) (fun j u v hu hv hp => ?_) ab (Bool.and_false _)
      match j, hu, hv with
      | 0, hu, hv => cases hu; cases hv; exact .str _ _
      | j + 1, hu, hv => cases hv
    | chance l' =>
      obtain ⟨d', e2, t2⟩ := h2
      refine .tup (e := fun j => if j = 0 then true else eqA eqPr l l') (SqT.of e1) (SqT.of e2) (fun j u v hu hv hp => ?_) ab ?_
      · match j, hu, hv with
        | 0, hu, hv => cases hu; cases hv; have := Eqd.str (K := K) (H := H) (n := n + 2) "chance" "chance"; rwa [beq_self_eq_true] at this
        | 1, hu, hv =>
          cases hu
          cases hv
          exact eqd_dict (fun a b x y r1 r2 _ _ => pair_eqd r1 r2) (fun a x y r1 r2 _ _ => pair_fun r1 r2) n1 n2 t1 t2
        | j + 2, hu, hv => cases hu
      · simp [eqSd, List.range_succ]
    | hand k l' =>
      obtain ⟨d', e2, _⟩ := h2
      refine .tup (e := fun j => if j = 0 then ("chance" : Str) == "hand" else false) (SqT.of e1) (SqT.of e2) (fun j u v hu hv hp => ?_) ab (Bool.and_false _)
      match j, hu, hv with
      | 0, hu, hv => cases hu; cases hv; exact .str _ _
      | 1, hu, hv => exact absurd (hp 0 (by decide)) (by decide +kernel)
      | j + 2, hu, hv => cases hu
  | hand k l =>
    obtain ⟨d, e1, t1⟩ := h1
    cases y with
    | fin =>
      have h2 : H b = some (.tup [.str "end"]) := h2
      refine .tup (e := fun _ => ("hand" : Str) == "end") (SqT.of e1) (SqT.of h2) (fun j u v hu hv hp => ?_) ab (Bool.and_false _)
      match j, hu, hv with
      | 0, hu, hv => cases hu; cases hv; exact .str _ _
      | j + 1, hu, hv => cases hv
    | chance l' =>
      obtain ⟨d', e2, _⟩ := h2
      refine .tup (e := fun j => if j = 0 then ("hand" : Str) == "chance" else false) (SqT.of e1) (SqT.of e2) (fun j u v hu hv hp => ?_) ab (Bool.and_false _)
      match j, hu, hv with
      | 0, hu, hv => cases hu; cases hv; exact .str _ _
      | 1, hu, hv => exact absurd (hp 0 (by decide)) (by decide +kernel)
      | j + 2, hu, hv => cases hv
    | hand k' l' =>
      obtain ⟨d', e2, t2⟩ := h2
      refine .tup (e := fun j => if j = 0 then true else if j = 1 then k == k' else eqA (· == ·) l l') (SqT.of e1) (SqT.of e2) (fun j u v hu hv hp => ?_) ab ?_
      · match j, hu, hv with
        | 0, hu, hv => cases hu; cases hv; have := Eqd.str (K := K) (H := H) (n := n + 2) "hand" "hand"; rwa [beq_self_eq_true] at this
        | 1, hu, hv => cases hu; cases hv; exact .int _ _
        | 2, hu, hv =>
          cases hu
          cases hv
          exact eqd_vals (f := V.str) (eq := (· == ·)) (fun x y => .str x y) (fun x y e => beq_iff_eq.mpr (V.str.inj e)) n1 n2 t1 t2
        | j + 3, hu, hv => cases hu
      · simp [eqSd, List.range_succ]
/-! ### k09: works told and compared, small dicts -/
theorem tab_look {l l' : List (Str × Sd)} (T : TabSort l l') {z : Str} {x : Sd} (hx : l.lookup z = some x) : ∃ x', l'.lookup z = some x' ∧ SdSort x x' := by
  obtain ⟨x', hx'⟩ := lookup_isSome (l := l') (z := z) (T.pm.mem_iff.mpr (List.mem_map.mpr ⟨_, lookup_mem hx, rfl⟩))
  obtain ⟨y, hy, s⟩ := T.sd z x' hx'
  rw [hx] at hy
  cases hy
  exact ⟨x', hx', s⟩
theorem take_notN {l : List Str} (nd : l.Nodup) {i : Nat} {z : Str} (h : l[i]? = some z) : z ∉ l.take i := fun hm => by
  obtain ⟨j, hj, he⟩ := List.getElem_of_mem hm
  have hj2 : j < i := by simp at hj; omega
  have hi : i < l.length := (List.getElem?_eq_some_iff.mp h).1
  have h5 : l[j]? = some z := by
    rw [List.getElem_take] at he
    rw [List.getElem?_eq_getElem (by omega), he]
  have := L2.nd_ix nd h5 h
  omega
theorem eqA_perm {α : Type} {eq : α → α → Bool} {l l' : List (Str × α)} (hr : ∀ x, eq x x = true) (p : l'.Perm l) (nd : (l.map (·.1)).Nodup) : eqA eq l l' = true := by
  have nd' : (l'.map (·.1)).Nodup := ((p.map (·.1)).nodup_iff).mpr nd
  refine (eqA_iff nd nd').mpr fun z => ?_
  have e : l'.lookup z = l.lookup z := lookup_perm p nd z
  rw [e]
  cases l.lookup z with
  | none => trivial
  | some x => exact hr x
theorem eqPr_refl (x : Str × Int) : eqPr x x = true := eqPr_iff.mpr rfl
theorem eqSd_sort {x x' : Sd} (n : NdS x) (s : SdSort x x') : eqSd x x' = true := by
  cases x <;> cases x' <;> first | rfl | exact s.elim | skip
  · exact eqA_perm eqPr_refl s.1 n
  · obtain ⟨rfl, p, _⟩ := s
    show ((_ == _) && _) = true
    rw [beq_self_eq_true, Bool.true_and]
    exact eqA_perm (fun x => beq_self_eq_true x) p n
theorem eqSd_symm {x y : Sd} (n1 : NdS x) (n2 : NdS y) (h : eqSd x y = true) : eqSd y x = true := by
  cases x <;> cases y <;> first | rfl | (cases h) | skip
  · exact (eqA_iff n2 n1).mpr (((eqA_iff n1 n2).mp h).symm fun x y e => by rw [eqPr_iff.mp e]; exact eqPr_refl _)
  · obtain ⟨h1, h2⟩ := Bool.and_eq_true_iff.mp h
    refine Bool.and_eq_true_iff.mpr ⟨by rw [eq_of_beq h1]; exact beq_self_eq_true _, ?_⟩
    exact (eqA_iff n2 n1).mpr (((eqA_iff n1 n2).mp h2).symm fun x y e => by rw [eq_of_beq e]; exact beq_self_eq_true _)
theorem eqSd_trans {x y z : Sd} (n1 : NdS x) (n2 : NdS y) (n3 : NdS z) (h : eqSd x y = true) (h' : eqSd y z = true) : eqSd x z = true := by
  cases x <;> cases y <;> cases z <;> first | rfl | (cases h; done) | (cases h'; done) | skip
  · exact (eqA_iff n1 n3).mpr (((eqA_iff n1 n2).mp h).trans (fun x y z e f => by rw [eqPr_iff.mp e]; exact f) ((eqA_iff n2 n3).mp h'))
  · obtain ⟨h1, h2⟩ := Bool.and_eq_true_iff.mp h
    obtain ⟨h3, h4⟩ := Bool.and_eq_true_iff.mp h'
    refine Bool.and_eq_true_iff.mpr ⟨by rw [eq_of_beq h1, eq_of_beq h3]; exact beq_self_eq_true _, ?_⟩
    exact (eqA_iff n1 n3).mpr (((eqA_iff n1 n2).mp h2).trans (fun x y z e f => by rw [eq_of_beq e]; exact f) ((eqA_iff n2 n3).mp h4))
/-- tables whose rows have different steps -/
def NdT (l : List (Str × Sd)) : Prop := (l.map (·.1)).Nodup ∧ ∀ z x, l.lookup z = some x → NdS x
theorem GoodT.ndT {h : Int} {l : List (Str × Sd)} (g : GoodT h l) : NdT l := ⟨g.nd, fun z x hx => (g.sd z x hx).ndS⟩
/-- == of two tables, as a flag -/
def eqT (l l' : List (Str × Sd)) : Bool := eqA eqSd l l'
theorem eqT_iff {l l' : List (Str × Sd)} (n : NdT l) (n' : NdT l') : eqT l l' = true ↔ SameA eqSd l l' := eqA_iff n.1 n'.1
theorem eqT_symm {l l' : List (Str × Sd)} (n : NdT l) (n' : NdT l') (h : eqT l l' = true) : eqT l' l = true := by
  refine (eqT_iff n' n).mpr fun z => ?_
  have := (eqT_iff n n').mp h z
  cases e : l.lookup z with
  | none => cases e2 : l'.lookup z with
    | none => trivial
    | some y => rw [e, e2] at this; exact this.elim
  | some x => cases e2 : l'.lookup z with
    | none => rw [e, e2] at this; exact this.elim
    | some y => rw [e, e2] at this; exact eqSd_symm (n.2 z x e) (n'.2 z y e2) this
theorem eqT_trans {l l' l'' : List (Str × Sd)} (n : NdT l) (n' : NdT l') (n'' : NdT l'') (h : eqT l l' = true) (h' : eqT l' l'' = true) : eqT l l'' = true := by
  refine (eqT_iff n n'').mpr fun z => ?_
  have h1 := (eqT_iff n n').mp h z
  have h2 := (eqT_iff n' n'').mp h' z
  cases e : l.lookup z with
  | none => cases e2 : l'.lookup z with
    | none => rw [e2] at h2; cases e3 : l''.lookup z with
      | none => trivial
      | some y => rw [e3] at h2; exact h2.elim
    | some y => rw [e, e2] at h1; exact h1.elim
  | some x => cases e2 : l'.lookup z with
    | none => rw [e, e2] at h1; exact h1.elim
    | some y =>
      rw [e, e2] at h1
      rw [e2] at h2
      cases e3 : l''.lookup z with
      | none => rw [e3] at h2; exact h2.elim
      | some u => rw [e3] at h2; exact eqSd_trans (n.2 z x e) (n'.2 z y e2) (n''.2 z u e3) h1 h2
theorem eqT_sort {h : Int} {l lw : List (Str × Sd)} (g : GoodT h l) (T : TabSort l lw) : eqT l lw = true := by
  refine (eqT_iff g.ndT (T.good g).ndT).mpr fun z => ?_
  cases e : l.lookup z with
  | none =>
    cases e2 : lw.lookup z with
    | none => trivial
    | some y => obtain ⟨x, hx, _⟩ := T.sd z y e2; rw [e] at hx; cases hx
  | some x =>
    obtain ⟨y, hy, s⟩ := tab_look T e
    rw [hy]
    exact eqSd_sort (g.sd z x e).ndS s
/-- equal tables may stand for one another -/
theorem eqT_left {l l1 l2 : List (Str × Sd)} (n : NdT l) (n1 : NdT l1) (n2 : NdT l2) (h : eqT l l1 = true) : eqT l l2 = eqT l1 l2 := by
  refine Bool.eq_iff_iff.mpr ⟨fun e => eqT_trans n1 n n2 (eqT_symm n n1 h) e, fun e => eqT_trans n n1 n2 h e⟩
theorem eqT_comm {l l' : List (Str × Sd)} (n : NdT l) (n' : NdT l') : eqT l l' = eqT l' l := Bool.eq_iff_iff.mpr ⟨eqT_symm n n', eqT_symm n' n⟩
theorem tab_eqd {K : PySem.W.Frag} {H : Hp} {n : Nat} {d d' : Addr} {l l' : List (Str × Sd)} (n1 : NdT l) (n2 : NdT l') (h : DictOf SdAt H d l) (h' : DictOf SdAt H d' l') : Eqd K H (n + 4) (.ref d) (.ref d') (eqT l l') :=
  eqd_dict (fun a b x y r1 r2 ⟨z, hz⟩ ⟨z', hz'⟩ => sd_eqd (n1.2 z x hz) (n2.2 z' y hz') r1 r2) (fun a x y r1 r2 ⟨z, hz⟩ ⟨z', hz'⟩ => sd_fun (n1.2 z x hz) (n2.2 z' y hz') r1 r2) n1.1 n2.1 h h'
theorem eqd_dict_top {α : Type} {R : Hp → Addr → α → Prop} {eq : α → α → Bool} {K : PySem.W.Frag} {H : Hp} {n : Nat} {d d' : Addr} {l l' : List (Str × α)} (hR : ∀ a b x y, R H a x → R H b y → (∃ z, l.lookup z = some x) → (∃ z, l'.lookup z = some y) → Eqd K H n (.ref a) (.ref b) (eq x y))
    (nd : (l.map (·.1)).Nodup) (nd' : (l'.map (·.1)).Nodup) (h : DictOf R H d l) (h' : DictOf R H d' l') : EqTop.DctTop K H n (.ref d) (.ref d') (eqA eq l l') := by
  obtain ⟨m, m1, m2, m3⟩ := h.ex
  obtain ⟨m', m1', m2', m3'⟩ := h'.ex
  have ndm : (m.map (·.1)).Nodup := by rw [m2]; exact nd
  have ndm' : (m'.map (·.1)).Nodup := by rw [m2']; exact nd'
  refine ⟨d, d', _, _, fun k => match k with
    | .inr z => (match l.lookup z, l'.lookup z with
      | some x, some y => eq x y
      | _, _ => true)
    | .inl _ => true, rfl, rfl, .inl m1, .inl m1', (fun k v u hk hu => ?_), ?_⟩
  · obtain ⟨q, hq, e⟩ := List.mem_map.mp hk
    cases e
    rw [strK_look] at hu
    cases e2 : m'.lookup q.1 with
    | none => rw [e2] at hu; cases hu
    | some b =>
      rw [e2] at hu
      cases hu
      obtain ⟨x, hx, rx⟩ := m3 q.1 q.2 hq
      obtain ⟨y, hy, ry⟩ := m3' q.1 b (lookup_mem e2)
      show Eqd K H n (.ref q.2) (.ref b) (match l.lookup q.1, l'.lookup q.1 with
        | some x, some y => eq x y
        | _, _ => true)
      rw [hx, hy]
      exact hR _ _ _ _ rx ry ⟨_, hx⟩ ⟨_, hy⟩
  · have ll : m.length = l.length := by have := congrArg List.length m2; rwa [List.length_map, List.length_map] at this
    have ll' : m'.length = l'.length := by have := congrArg List.length m2'; rwa [List.length_map, List.length_map] at this
    unfold eqA
    rw [List.length_map, List.length_map, ll, ll']
    congr 1
    have key : ∀ (z : Str), z ∈ m.map (·.1) → ((valV (strK V.ref m') (Sum.inr z)).isSome && (match l.lookup z, l'.lookup z with
        | some x, some y => eq x y
        | _, _ => true)) = (match l.lookup z, l'.lookup z with
        | some x, some y => eq x y
        | _, _ => false) := fun z hz => by
      rw [strK_look]
      obtain ⟨x, hx⟩ := lookup_isSome (l := l) (by rw [← m2]; exact hz)
      rw [hx]
      cases e : m'.lookup z with
      | some b =>
        obtain ⟨y, hy, _⟩ := m3' z b (lookup_mem e)
        rw [hy]
        rfl
      | none =>
        have : l'.lookup z = none := lookup_none fun h => by
          rw [← m2'] at h
          obtain ⟨v, hv⟩ := lookup_isSome h
          rw [e] at hv
          cases hv
        rw [this]
        rfl
    have e1 : ((strK V.ref m).all fun p => (valV (strK V.ref m') p.1).isSome && (match p.1 with
        | .inr z => (match l.lookup z, l'.lookup z with
          | some x, some y => eq x y
          | _, _ => true)
        | .inl _ => true)) = (m.map (·.1)).all fun z => (match l.lookup z, l'.lookup z with
        | some x, some y => eq x y
        | _, _ => false) := by
      rw [List.all_map, List.all_map]
      refine Bool.eq_iff_iff.mpr ?_
      rw [List.all_eq_true, List.all_eq_true]
      exact forall_congr' fun q => forall_congr' fun hq => by
        have := key q.1 (List.mem_map.mpr ⟨q, hq, rfl⟩)
        show (((valV (strK V.ref m') (Sum.inr q.1)).isSome && _) = true ↔ _)
        rw [this]
        rfl
    rw [e1, m2, List.all_map]
    refine Bool.eq_iff_iff.mpr ?_
    rw [List.all_eq_true, List.all_eq_true]
    exact forall_congr' fun q => forall_congr' fun hq => by
      show ((match l.lookup q.1, l'.lookup q.1 with | some x, some y => eq x y | _, _ => false) = true ↔ (match l'.lookup q.1 with | some y => eq q.2 y | none => false) = true)
      rw [lookup_of nd hq]
      cases l'.lookup q.1 <;> exact Iff.rfl
theorem eqd_vals_top {α : Type} {f : α → V} {eq : α → α → Bool} {K : PySem.W.Frag} {H : Hp} {n : Nat} {d d' : Addr} {l l' : List (Str × α)} (hR : ∀ x y, Eqd K H n (f x) (f y) (eq x y)) (nd : (l.map (·.1)).Nodup) (nd' : (l'.map (·.1)).Nodup)
    (h : H d = some (.dK (strK f l))) (h' : H d' = some (.dK (strK f l'))) : EqTop.DctTop K H n (.ref d) (.ref d') (eqA eq l l') := by
  refine ⟨d, d', _, _, fun k => match k with
    | .inr z => (match l.lookup z, l'.lookup z with
      | some x, some y => eq x y
      | _, _ => true)
    | .inl _ => true, rfl, rfl, .inl h, .inl h', (fun k v u hk hu => ?_), ?_⟩
  · obtain ⟨q, hq, e⟩ := List.mem_map.mp hk
    cases e
    rw [strK_look] at hu
    cases e2 : l'.lookup q.1 with
    | none => rw [e2] at hu; cases hu
    | some b =>
      rw [e2] at hu
      cases hu
      show Eqd K H n (f q.2) (f b) (match l.lookup q.1, l'.lookup q.1 with
        | some x, some y => eq x y
        | _, _ => true)
      rw [lookup_of nd hq, e2]
      exact hR _ _
  · unfold eqA
    rw [List.length_map, List.length_map]
    congr 1
    rw [List.all_map]
    refine Bool.eq_iff_iff.mpr ?_
    rw [List.all_eq_true, List.all_eq_true]
    exact forall_congr' fun q => forall_congr' fun hq => by
      show (((valV (strK f l') (Sum.inr q.1)).isSome && (match l.lookup q.1, l'.lookup q.1 with | some x, some y => eq x y | _, _ => true)) = true ↔ (match l'.lookup q.1 with | some y => eq q.2 y | none => false) = true)
      rw [strK_look, lookup_of nd hq]
      cases l'.lookup q.1 <;> simp
theorem tab_top {K : PySem.W.Frag} {H : Hp} {n : Nat} {d d' : Addr} {l l' : List (Str × Sd)} (n1 : NdT l) (n2 : NdT l') (h : DictOf SdAt H d l) (h' : DictOf SdAt H d' l') : EqTop.DctTop K H (n + 3) (.ref d) (.ref d') (eqT l l') :=
  eqd_dict_top (fun a b x y r1 r2 ⟨z, hz⟩ ⟨z', hz'⟩ => sd_eqd (n1.2 z x hz) (n2.2 z' y hz') r1 r2) n1.1 n2.1 h h'
def spStandsP (CW : Addr) : Sp := fun vs H Q _ => ∃ (a : Addr) (h : Int) (st : Str) (l : List (Str × Sd)), vs = [.ref a] ∧ WorkAt CW H a h st l ∧ GoodT h l ∧ ∀ H' D l', L2.Same H H' → H D = none → DictOf SdAt (nd H H') D l' → GoodT h l' → eqT l' l = true → Q (.ref D) H'
def spWorkEq (CW : Addr) : Sp := fun vs H Q _ => ∃ (a b : Addr) (h h' : Int) (st st' : Str) (l l' : List (Str × Sd)), vs = [.ref a, .ref b] ∧ WorkAt CW H a h st l ∧ WorkAt CW H b h' st' l' ∧ GoodT h l ∧ GoodT h' l' ∧ Q (.bl (decide (h = h') && (decide (st = st') && eqT l l'))) H
def spMirrorL : Sp := fun vs H Q _ => ∃ (G : Addr) (wl : List (Str × Int)), vs = [.ref G] ∧ H G = some (.dK (strK V.int wl)) ∧ (wl.map (·.1)).Nodup ∧ wl.length ≤ 200 ∧ ∀ H' D, L2.Same H H' → H D = none → H' D = some (.dK (strK V.int (negL wl))) → Q (.ref D) H'
def spBackL : Sp := fun vs H Q _ => ∃ (G : Addr) (wl : List (Str × Int)), vs = [.ref G] ∧ H G = some (.dK (strK V.int wl)) ∧ (wl.map (·.1)).Nodup ∧ wl.length ≤ 200 ∧ ∀ H' D l', L2.Same H H' → H D = none → H' D = some (.dK (strK V.int l')) → l'.Perm wl → Q (.ref D) H'
section
variable {P : Program} {w : World} {K : PySem.W.Frag} {mg : Str → Option Value} {base : Heap} {CW : Addr}
theorem ok_Work_stands {f : Addr} {fd : FuncData} (F : Fun K "stands" "Work.stands" s_Work_stands f fd) (K_Work : Cls K CW) (N1 : NoAttr K CW "table") (C_copied : Cal P w K mg base 1 "copied" ["stand"] spCopied) : FnOk P w K mg base CX0 2 f fd ["self"] (spStandsP CW) := by
  refine F.ok sc_Work_stands (fun vs H Q E h => ?_) (fun cdv A outer s H vs Q E hr h => ?_)
  · obtain ⟨_, _, _, _, rfl, _⟩ := h
    rfl
  · obtain ⟨a, h, st, l, rfl, hW, g, k⟩ := h
    obtain ⟨dx, t, n, e, ha, ht, hn, he⟩ := hW.ex
    obtain ⟨m, hm, hmk, hmv⟩ := id ht.ex
    have hu := hu_of hr
    have hat : a ≠ t := ne_of ha hm (by intro z; cases z)
    have g2 := g.l2
    refine ⟨_, (pss_one (ps_ret (pe_lock (pe_dc (own := [("name", 1)]) (g := gName 1) (tt := tYes) (by rfl) sc_Work_stands.nd (pi_keys (pe_fld (pv 0) rfl)) (blkOk_by (own := [("name", 1)]) (N := N_Work_stands) (sc := defScope s_Work_stands) (by decide +kernel)) (fun _ _ _ _ _ => (pg_name (i := 1) sc_Work_stands.nd rfl (Or.inl rfl))) (fun _ _ _ _ _ => pts_nil) (fun _ _ _ _ _ => by exact (pv 1)) (fun _ _ _ _ _ => by exact (pe_cal C_copied (hr.mono (by decide)) (by rfl) (pa_cons (pe_dget hu (pe_fldK (K := K) (pv 0) (by rfl)) (pv 1) (fun _ _ => rfl)) pa_nil))))))), ?_⟩
    walk_at "go"
    refine x_lockE hm trivial fun od => ?_
    have ha1 : (upd H t (.frz od (.dK (strK V.ref m)))) a = some (.ins CW dx (wkF h st t n e (ringB l (l.map (·.1))))) := by rw [upd_ne hat]; exact ha
    walk_at "go"
    refine x_fld K_Work N1 ha1 (wkF_table ..) ?_
    refine runK upd_same ?_
    intro D hD
    have hDt : D ≠ t := fun z => by rw [z, upd_same] at hD; cases hD
    have hD0 : H D = none := by rw [upd_ne hDt] at hD; exact hD
    have ndm : (m.map (·.1)).Nodup := by rw [hmk]; exact g.nd
    have hml : m.length = l.length := by have := congrArg List.length hmk; rwa [List.length_map, List.length_map] at this
    refine dcK (kvs := strK V.ref m) (fun i H' => L2.Same (upd H t (.frz od (.dK (strK V.ref m)))) H' ∧ ∃ (l' : List (Str × Sd)) (m' : List (Str × Addr)), H' D = some (.dK (strK V.ref m')) ∧ m'.map (·.1) = (m.map (·.1)).take i ∧ l'.map (·.1) = (m.map (·.1)).take i ∧
      (∀ z b, (z, b) ∈ m' → ∃ x', l'.lookup z = some x' ∧ SdAt (nd H (wo H' D)) b x') ∧ ∀ z x', l'.lookup z = some x' → ∃ x, l.lookup z = some x ∧ SdSort x x') ?_ ?_ ?_ ?_
    · exact ⟨same_new hD, [], [], upd_same, rfl, rfl, (fun z b hb => by cases hb), fun z x hx => by cases hx⟩
    · exact fun i H' _ h => h.1 t _ upd_same
    · rintro i k0 v0 H3 hi ⟨s3, l', m', hD3, km, kl, hm3, hs3⟩
      obtain ⟨z, b, rfl, rfl, hlx⟩ := strK_at hi
      have hz : (m.map (·.1))[i]? = some z := by rw [List.getElem?_map, hlx]; rfl
      have hzt : z ∉ (m.map (·.1)).take i := take_notN ndm hz
      obtain ⟨x, hx, hbx⟩ := hmv z b (List.mem_of_getElem? hlx)
      have gx := g.sd z x hx
      have ht3 : H3 t = some (.frz od (.dK (strK V.ref m))) := s3 t _ upd_same
      have sH3 : ∀ b o, H b = some o → b ≠ t → H3 b = some o := fun b o e n => s3 b o (by rw [upd_ne n]; exact e)
      have hbx3 : SdAt H3 b x := (sd_woT hm (fun y c hyc => (hmv y c hyc).imp fun v hv => hv.2) hbx gx).same fun c o ec => by
        obtain ⟨e1, n1⟩ := wo_some ec
        exact sH3 c o e1 n1
      walk_at "go"
      refine ⟨rfl, ?_⟩
      walk_at "go"
      refine x_fld K_Work N1 (s3 _ _ ha1) wkF_table ?_
      walk_at "go"
      refine x_getL (l := m) (.inr ⟨od, ht3⟩) (lookup_of ndm (List.mem_of_getElem? hlx)) ?_
      walk_at "go"
      refine ⟨b, x, h, _, rfl, hbx3, gx, fun H4 p x' s4 hp4 hpx hsx => ?_⟩
      have hD4 := s4 _ _ hD3
      have ml' : m'.length ≤ i := by have := congrArg List.length km; rw [List.length_map, List.length_take] at this; omega
      have il : i < m.length := (List.getElem?_eq_some_iff.mp hlx).1
      refine ⟨_, Sum.inr z, rfl, hD4, sz_lt (by rw [List.length_map]; omega), same_upd (s3.trans s4) hD, l' ++ [(z, x')], m' ++ [(z, p)], ?_, ?_, ?_, ?_, ?_⟩
      · rw [upd_same, strK_put, putL_new]
        rw [km]
        exact hzt
      · rw [List.map_append, km, take_succ_get hz]
        rfl
      · rw [List.map_append, kl, take_succ_get hz]
        rfl
      · intro y c hyc
        rw [wo_upd]
        rw [lookup_snoc (by rw [kl]; exact hzt)]
        rcases List.mem_append.mp hyc with hyc1 | hyc1
        · have hne : y ≠ z := fun e => by
            subst e
            exact hzt (by rw [← km]; exact List.mem_map.mpr ⟨_, hyc1, rfl⟩)
          obtain ⟨v, hv, hv2⟩ := hm3 _ _ hyc1
          rw [if_neg hne]
          exact ⟨v, hv, hv2.same (nd_mono (fun _ h => h) fun b o _ e => wo_mono s4 b o e)⟩
        · have e := List.mem_singleton.mp hyc1
          injection e with e1 e2
          subst e1 e2
          rw [if_pos rfl]
          exact ⟨x', rfl, hpx.same (nd_mono (nd_kept (p := fun b => b = t) (fun b o e n => sH3 b o e n) fun b (q : b = t) => ⟨_, (congrArg H3 q).trans ht3, fun xs z => by cases z⟩) fun b o h e => by
              have nbD : b ≠ D := fun q => by
                rw [q, hD3] at h
                rcases h with h | ⟨xs, h⟩ <;> cases h
              rw [wo_ne nbD]
              exact e)⟩
      · intro y v hv
        rw [lookup_snoc (by rw [kl]; exact hzt)] at hv
        by_cases e : y = z
        · subst e
          rw [if_pos rfl] at hv
          cases hv
          exact ⟨x, hx, hsx⟩
        · rw [if_neg e] at hv
          exact hs3 y v hv
    · rintro H4 ⟨s3, l', m', hD4, km, kl, hm3, hs3⟩
      have eL : (strK V.ref m).length = (m.map (·.1)).length := by rw [List.length_map, List.length_map]
      rw [eL, List.take_length] at km kl
      refine ⟨s3 t _ upd_same, ?_⟩
      have ndl' : (l'.map (·.1)).Nodup := by rw [kl]; exact ndm
      have g' : GoodT h l' := ⟨ndl', by have := congrArg List.length kl; rw [List.length_map, List.length_map] at this; have := g.l1; omega, by have := congrArg List.length kl; rw [List.length_map, List.length_map] at this; omega, fun z hz => g.nm z (by rw [← hmk, ← kl]; exact hz), fun z x' hx' => by
        obtain ⟨x, hx, hs⟩ := hs3 z x' hx'
        have e1 : l'.map (·.1) = l.map (·.1) := by rw [kl, hmk]
        rw [e1]
        exact (g.sd z x hx).sort hs⟩
      refine k _ D l' (fun b o e => ?_) hD0 ⟨m', (nd_new hD0).trans (by rw [upd_ne hDt]; exact hD4), by rw [km, kl], fun z b hzb => ?_⟩ g' ?_
      · by_cases hbt : b = t
        · subst hbt
          rw [hm] at e
          rw [upd_same, e]
        · rw [upd_ne hbt]
          exact s3 b o (by rw [upd_ne hbt]; exact e)
      · obtain ⟨v, hv, hv2⟩ := hm3 z b hzb
        exact ⟨v, hv, hv2.same (nd_mono (fun _ h => h) fun c o hc e => by
          have nt : c ≠ t := fun q => by
            rw [q, hm] at hc
            rcases hc with hc | ⟨xs, hc⟩ <;> cases hc
          rw [upd_ne nt]
          exact wo_same c o e)⟩
      · refine eqT_symm g.ndT g'.ndT ((eqT_iff g.ndT g'.ndT).mpr fun z => ?_)
        cases e : l.lookup z with
        | none => cases e2 : l'.lookup z with
          | none => trivial
          | some y => obtain ⟨x, hx, _⟩ := hs3 z y e2; rw [e] at hx; cases hx
        | some x =>
          obtain ⟨y, hy⟩ := lookup_isSome (l := l') (z := z) (by rw [kl, hmk]; exact List.mem_map.mpr ⟨_, lookup_mem e, rfl⟩)
          obtain ⟨x2, hx2, hs⟩ := hs3 z y hy
          rw [e] at hx2
          cases hx2
          rw [hy]
          exact eqSd_sort (g.sd z x e).ndS hs
theorem ok_Work_eq {f : Addr} {fd : FuncData} (F : Fun K "__eq__" "Work.__eq__" s_Work_eq f fd) (K_Work : Cls K CW) (I_Work : Isc K CW) (kw : PySem.W.kitOne K (.ref CW) (.ref CW) = some true) (G_Work : mg "Work" = some (.ref CW)) (N1 : NoAttr K CW "hands") (N2 : NoAttr K CW "start") (N3 : NoAttr K CW "table") (Z_isinstance : mg "isinstance" = none) :
    FnOk P w K mg base CX0 1 f fd ["self", "other"] (spWorkEq CW) := by
  refine F.ok sc_Work_eq (fun vs H Q E h => ?_) (fun cdv A outer s H vs Q E hr h => ?_)
  · obtain ⟨_, _, _, _, _, _, _, _, rfl, _⟩ := h
    rfl
  · obtain ⟨a, b, h, h', st, st', l, l', rfl, w1, w2, g1, g2, q⟩ := h
    obtain ⟨dx1, t1, n1, e1, ha, ta, _, _⟩ := w1.ex
    obtain ⟨dx2, t2, n2, e2, hb, tb, _, _⟩ := w2.ex
    have hu := hu_of hr
    refine ⟨_, (pss_cons (ps_if (pt_not (pt_val (pe_callB call_isi (by rfl) Z_isinstance (by decide +kernel) (pa_cons (pv 1) (pa_cons (pe_glob (v := .ref _) (by rfl) G_Work rfl) pa_nil)))))
      (pss_one (ps_ret pe_bl))
      pss_nil)
      (pss_one (ps_ret (pe_and (pe_cmpR op_eq (pe_fld (pv 0) rfl) (pe_fld (pv 1) rfl) (nomark _)) (pe_and (pe_cmpR op_eq (pe_fld (pv 0) rfl) (pe_fld (pv 1) rfl) (nomark _)) (pe_one (pe_cmpR (op_eqX (hu100 hr)) (pe_fld (pv 0) rfl) (pe_fld (pv 1) rfl) (nomark _)))))))), ?_⟩
    walk_at "go"
    refine x_isiOwn I_Work hb kw ?_
    walk_at "go"
    refine x_fld K_Work N1 ha wkF_hands ?_
    walk_at "go"
    refine x_fld K_Work N1 hb wkF_hands ?_
    walk_at "go"
    refine x_dec (fun hh => ?_) (fun hh => ?_)
    · walk_at "go"
      refine x_fld K_Work N2 ha wkF_start ?_
      walk_at "go"
      refine x_fld K_Work N2 hb wkF_start ?_
      walk_at "go"
      refine x_dec (fun hs => ?_) (fun hs => ?_)
      · walk_at "go"
        refine x_fld K_Work N3 ha wkF_table ?_
        walk_at "go"
        refine x_fld K_Work N3 hb wkF_table ?_
        refine ⟨10, eqT l l', by decide, .inr (tab_top (n := 7) g1.ndT g2.ndT ta tb), ?_⟩
        rw [decide_eq_true hh, decide_eq_true hs, Bool.true_and, Bool.true_and] at q
        exact q
      · rw [decide_eq_true hh, decide_eq_false hs] at q
        exact q
    · rw [decide_eq_false hh] at q
      exact q
end
/-! ### k09: small dicts, what is spoiled -/
theorem nd_map {α : Type} {l : List (Str × α)} (h : (l.map (·.1)).Nodup) : l.Nodup := (List.pairwise_map.mp h).imp fun h e => h (congrArg (·.1) e)
def spWishEqB (C : Addr) : Sp := fun vs H Q _ => ∃ (a b : Addr) (e1 e2 : Int) (l1 l2 : List (Str × Int)), vs = [.ref a, .ref b] ∧ WishAt C H a l1 e1 ∧ WishAt C H b l2 e2 ∧ (l1.map (·.1)).Nodup ∧ (l2.map (·.1)).Nodup ∧ Q (.bl (decide (e1 = e2) && eqA (· == ·) l1 l2)) H
theorem eqA_permL {l1 m1 l2 m2 : List (Str × Int)} (n1 : (l1.map (·.1)).Nodup) (n2 : (l2.map (·.1)).Nodup) (p1 : m1.Perm l1) (p2 : m2.Perm l2) : eqA (· == ·) m1 m2 = eqA (· == ·) l1 l2 := by
  have nm1 : (m1.map (·.1)).Nodup := ((p1.map (·.1)).nodup_iff).mpr n1
  have nm2 : (m2.map (·.1)).Nodup := ((p2.map (·.1)).nodup_iff).mpr n2
  refine Bool.eq_iff_iff.mpr ?_
  rw [eqA_iff nm1 nm2, eqA_iff n1 n2]
  unfold SameA
  exact forall_congr' fun z => by rw [lookup_perm p1 n1 z, lookup_perm p2 n2 z]
def spAsDraws : Sp := fun vs H Q _ => ∃ (G : Addr) (l : List (Str × Str)), vs = [.ref G] ∧ H G = some (.dK (strK V.str l)) ∧ (l.map (·.1)).Nodup ∧ l.length ≤ 100 ∧ ∀ H' D, L2.Same H H' → H D = none → DictOf PairAt (nd H H') D (l.map fun q => (q.1, (q.2, (1 : Int)))) → Q (.ref D) H'
/-- all places that are new since G, and the table at D, may change -/
def spSpoil : Sp := fun vs H Q _ => ∃ (D : Addr) (h : Int) (l : List (Str × Sd)) (G : Hp), vs = [.ref D] ∧ L2.Same G H ∧ DictOf SdAt (nd G H) D l ∧ GoodT h l ∧ ∀ H', L2.Same G H' → Q .non H'
section
variable {P : Program} {w : World} {K : PySem.W.Frag} {mg : Str → Option Value} {base : Heap} {C : Addr}
theorem ok_Wish_eqB {f : Addr} {fd : FuncData} (F : Fun K "__eq__" "Wish.__eq__" s_Wish_eq f fd) (K_Wish : Cls K C) (I_Wish : Isc K C) (kw : PySem.W.kitOne K (.ref C) (.ref C) = some true) (G_Wish : mg "Wish" = some (.ref C)) (N1 : NoAttr K C "table") (N2 : NoAttr K C "endless") (Z_isinstance : mg "isinstance" = none) :
    FnOk P w K mg base CX0 1 f fd ["self", "other"] (spWishEqB C) := by
  refine F.ok sc_Wish_eq (fun vs H Q E h => ?_) (fun cdv A outer s H vs Q E hr h => ?_)
  · obtain ⟨_, _, _, _, _, _, rfl, _⟩ := h
    rfl
  · obtain ⟨a, b, e1, e2, l1, l2, rfl, hA, hB, n1, n2, q⟩ := h
    obtain ⟨dx, t, m1, ha, ht, hp1, _⟩ := id hA.ex
    obtain ⟨dy, u, m2, hb, hu2, hp2, _⟩ := id hB.ex
    have nm1 : (m1.map (·.1)).Nodup := ((hp1.map (·.1)).nodup_iff).mpr n1
    have nm2 : (m2.map (·.1)).Nodup := ((hp2.map (·.1)).nodup_iff).mpr n2
    refine ⟨_, (pss_one (ps_ret (pe_and (pe_callB call_isi (by rfl) Z_isinstance (by decide +kernel) (pa_cons (pv 1) (pa_cons (pe_glob (v := .ref _) (by rfl) G_Wish rfl) pa_nil))) (pe_and (pe_cmpR op_eq (pe_fld (pv 0) rfl) (pe_fld (pv 1) rfl) (nomark _)) (pe_one (pe_cmpR (op_eqX (hu100 hr)) (pe_fld (pv 0) rfl) (pe_fld (pv 1) rfl) (nomark _))))))), ?_⟩
    walk_at "go"
    refine x_isiOwn I_Wish hb kw ?_
    walk_at "go"
    refine x_fld K_Wish N2 ha (wF_endless _ _ _) ?_
    walk_at "go"
    refine x_fld K_Wish N2 hb (wF_endless _ _ _) ?_
    walk_at "go"
    refine x_dec (fun he => ?_) (fun he => ?_)
    · walk_at "go"
      refine x_fld K_Wish N1 ha (wF_table _ _ _) ?_
      walk_at "go"
      refine x_fld K_Wish N1 hb (wF_table _ _ _) ?_
      refine ⟨10, eqA (· == ·) m1 m2, by decide, .inr (eqd_vals_top (f := V.int) (eq := (· == ·)) (fun x y => .int x y) nm1 nm2 ht hu2), ?_⟩
      rw [decide_eq_true he, Bool.true_and, ← eqA_permL n1 n2 hp1 hp2] at q
      exact q
    · rw [decide_eq_false he] at q
      exact q
theorem ok_l_mirror {f : Addr} {fd : FuncData} (F : Fun K "_law_mirror" "_law_mirror" s_l_mirror f fd) : FnOk P w K mg base CX0 1 f fd ["_law_wanted"] spMirrorL := by
  refine F.ok sc_l_mirror (fun vs H Q E h => ?_) (fun cdv A outer s H vs Q E hr h => ?_)
  · obtain ⟨_, _, rfl, _⟩ := h
    rfl
  · obtain ⟨G, wl, rfl, hG, wnd, wl2, q⟩ := h
    have hu := hu_of hr
    refine ⟨_, (pss_cons (ps_set (i := 1) sc_l_mirror.nd rfl (Or.inl rfl) pe_dnewK)
      (pss_cons (ps_lock (ps_for PassesOwn.never rfl (pi_keys (pv 0)) (pg_name (i := 2) sc_l_mirror.nd rfl (Or.inl rfl))
      (pss_one (ps_dput hu (pv 1) (pv 2) (pe_un un_neg (pe_dget hu (pv 0) (pv 2) (fun _ _ => rfl))) rfl))))
      (pss_one (ps_ret (pv 1))))), ?_⟩
    walk_at "go"
    intro M mM
    have nGM : G ≠ M := ne_of_none hG mM
    have sM : L2.Same H (upd H M (.dK [])) := same_new mM
    have hMM : (upd H M (.dK [])) M = some (.dK []) := upd_same
    generalize upd H M (.dK []) = HM at sM hMM
    walk_at "go"
    refine x_lock (sM _ _ hG) trivial fun od => ?_
    walk_at "go"
    refine lpK (kvs := strK V.int wl) (fun j σ H' => ∃ v2 : Option V, σ = [some (.ref G), some (.ref M), v2] ∧ L2.Same (wo (upd HM G (.frz od (.dK (strK V.int wl)))) M) H' ∧ H' M = some (.dK (strK V.int (negL (wl.take j))))) upd_same ⟨_, rfl, wo_same, by rw [upd_ne nGM.symm]; exact hMM⟩
      (fun j σ H' _ ⟨_, _, s2, _⟩ => s2 G _ (by rw [wo_ne nGM, upd_same])) ?_ ?_
    · rintro j k0 v0 σ H3 hj ⟨v2, rfl, s3, hM3⟩
      obtain ⟨z, y, rfl, rfl, hly⟩ := strK_at hj
      have hjl : j < wl.length := (List.getElem?_eq_some_iff.mp hly).1
      have hG3 : H3 G = some (.frz od (.dK (strK V.int wl))) := s3 G _ (by rw [wo_ne nGM, upd_same])
      walk_at "go"
      refine x_getL (l := wl) (.inr ⟨od, hG3⟩) (lookup_of wnd (List.mem_of_getElem? hly)) ?_
      walk_at "go"
      have hz : (wl.map (·.1))[j]? = some z := by rw [List.getElem?_map, hly]; rfl
      have fresh : z ∉ (negL (wl.take j)).map (·.1) := by
        unfold negL
        rw [List.map_map, show (((fun x : Str × Int => x.1) ∘ fun q => (q.1, -q.2))) = fun x : Str × Int => x.1 from rfl, List.map_take]
        exact take_notN wnd hz
      refine x_putL (l := negL (wl.take j)) (x := -y) hM3 (by unfold negL; rw [List.length_map, List.length_take]; omega) rfl ?_
      refine ⟨_, rfl, same_upd s3 wo_at, ?_⟩
      rw [upd_same, putL_new _ fresh, take_succ_get hly]
      unfold negL
      rw [List.map_append]
      rfl
    · rintro σ H3 ⟨v2, rfl, s3, hM3⟩
      have el : (strK V.int wl).length = wl.length := List.length_map ..
      rw [el, List.take_length] at hM3
      have hG3 : H3 G = some (.frz od (.dK (strK V.int wl))) := s3 G _ (by rw [wo_ne nGM, upd_same])
      refine ⟨hG3, ?_⟩
      walk_at "go"
      refine q _ M (fun c o ec => ?_) mM (by rw [upd_ne nGM.symm]; exact hM3)
      by_cases e2 : c = G
      · subst e2
        rw [upd_same]
        rw [hG] at ec
        exact ec
      · rw [upd_ne e2]
        exact s3 c o (by rw [wo_ne (ne_of_none ec mM), upd_ne e2]; exact sM _ _ ec)
theorem ok_l_backwards {f : Addr} {fd : FuncData} (F : Fun K "_law_backwards" "_law_backwards" s_l_backwards f fd) (Z_list : mg "list" = none) : FnOk P w K mg base CX0 1 f fd ["_law_wanted"] spBackL := by
  refine F.ok sc_l_backwards (fun vs H Q E h => ?_) (fun cdv A outer s H vs Q E hr h => ?_)
  · obtain ⟨_, _, rfl, _⟩ := h
    rfl
  · obtain ⟨G, wl, rfl, hG, wnd, wl2, q⟩ := h
    have hu := hu_of hr
    refine ⟨_, (pss_cons (ps_set (i := 1) sc_l_backwards.nd rfl (Or.inl rfl) pe_dnewK)
      (pss_cons (ps_for PassesOwn.never rfl (pi_list (pe_revL (pe_callTy (call_list_dK rfl) (by rfl) Z_list (by decide +kernel) (pa_cons (pv 0) pa_nil)))) (pg_name (i := 2) sc_l_backwards.nd rfl (Or.inl rfl))
      (pss_one (ps_dput hu (pv 1) (pv 2) (pe_dget hu (pv 0) (pv 2) (fun _ _ => rfl)) rfl)))
      (pss_one (ps_ret (pv 1))))), ?_⟩
    walk_at "go"
    intro M mM
    have sM : L2.Same H (upd H M (.dK [])) := same_new mM
    have hMM : (upd H M (.dK [])) M = some (.dK []) := upd_same
    generalize upd H M (.dK []) = HM at sM hMM
    walk_at "go"
    refine ⟨G, _, rfl, sM _ _ hG, fun c1 hc1 => ?_⟩
    have ekk : (strK V.int wl).map (fun kv => kV kv.1) = strsV (wl.map (·.1)) := by
      rw [List.map_map]
      show _ = List.map V.str (List.map _ wl)
      rw [List.map_map]
      rfl
    rw [ekk]
    refine x_rev (SqL.of upd_same) fun c hc => ?_
    rw [show (strsV (wl.map (·.1))).reverse = strsV (wl.map (·.1)).reverse from (List.map_reverse ..).symm]
    have nMc1 : M ≠ c1 := ne_of_none hMM hc1
    have hM1 : (upd HM c1 (.lst (strsV (wl.map (·.1))))) M = some (.dK []) := by rw [upd_ne nMc1]; exact hMM
    have nMc : M ≠ c := ne_of_none hM1 hc
    have s3 : L2.Same H (upd (upd HM c1 (.lst (strsV (wl.map (·.1))))) c (.lst (strsV (wl.map (·.1)).reverse))) := (sM.trans (same_new hc1)).trans (same_new hc)
    have hc3 : (upd (upd HM c1 (.lst (strsV (wl.map (·.1))))) c (.lst (strsV (wl.map (·.1)).reverse))) c = some (.lst (strsV (wl.map (·.1)).reverse)) := upd_same
    have hM3 : (upd (upd HM c1 (.lst (strsV (wl.map (·.1))))) c (.lst (strsV (wl.map (·.1)).reverse))) M = some (.dK []) := by rw [upd_ne nMc]; exact hM1
    generalize upd (upd HM c1 (.lst (strsV (wl.map (·.1))))) c (.lst (strsV (wl.map (·.1)).reverse)) = H3 at s3 hc3 hM3 ⊢
    have hperm : ((wl.map (·.1)).reverse).Perm (wl.map (·.1)) := List.reverse_perm _
    generalize (wl.map (·.1)).reverse = ys at hperm hc3 ⊢
    have ynd : ys.Nodup := (hperm.nodup_iff).mpr wnd
    have yl : ys.length = wl.length := by rw [hperm.length_eq, List.length_map]
    refine lpL (xs := strsV ys) (fun i σ H' => ∃ (v2 : Option V) (acc : List (Str × Int)), σ = [some (.ref G), some (.ref M), v2] ∧ L2.Same H H' ∧ H' c = some (.lst (strsV ys)) ∧ H' M = some (.dK (strK V.int acc)) ∧ acc.map (·.1) = ys.take i ∧ ∀ x ∈ acc, x ∈ wl) (SqL.of hc3) ⟨_, [], rfl, s3, hc3, hM3, rfl, fun x hx => by cases hx⟩ (fun i σ H' _ ⟨_, _, _, _, h, _⟩ => SqL.of h) ?_ ?_
    · rintro i v σ H4 hv ⟨v2, acc, rfl, s4, hc4, hM4, ak, am⟩
      rw [List.getElem?_map] at hv
      cases hz : ys[i]? with
      | none => rw [hz] at hv; cases hv
      | some z =>
        rw [hz] at hv
        have ex : V.str z = v := Option.some.inj hv
        subst ex
        obtain ⟨y, hy⟩ := lookup_isSome (hperm.mem_iff.mp (List.mem_of_getElem? hz))
        have hzn : z ∉ acc.map (·.1) := by rw [ak]; exact take_notN ynd hz
        have al : acc.length ≤ 200 := by have := congrArg List.length ak; rw [List.length_map, List.length_take] at this; omega
        walk_at "go"
        refine x_getL (l := wl) (.inl (s4 _ _ hG)) hy ?_
        walk_at "go"
        refine x_putL (l := acc) (x := y) hM4 (by omega) rfl ?_
        refine ⟨_, acc ++ [(z, y)], rfl, same_upd s4 mM, by rw [upd_ne (Ne.symm nMc)]; exact hc4, by rw [upd_same, putL_new _ hzn], by rw [List.map_append, ak, take_succ_get hz]; rfl, fun x hx => ?_⟩
        rcases List.mem_append.mp hx with hx | hx
        · exact am x hx
        · rw [List.mem_singleton.mp hx]; exact lookup_mem hy
    · rintro σ H4 ⟨v2, acc, rfl, s4, hc4, hM4, ak, am⟩
      rw [List.length_map, List.take_length] at ak
      walk_at "go"
      refine q H4 M acc s4 mM hM4 ?_
      have nda : acc.Nodup := by
        have : (acc.map (·.1)).Nodup := by rw [ak]; exact ynd
        exact nd_map this
      refine (List.perm_ext_iff_of_nodup nda (nd_map wnd)).mpr fun x => ⟨am x, fun hx => ?_⟩
      have h1 : x.1 ∈ acc.map (·.1) := by rw [ak]; exact hperm.mem_iff.mpr (List.mem_map.mpr ⟨x, hx, rfl⟩)
      obtain ⟨y, hy, e⟩ := List.mem_map.mp h1
      have e1 := lookup_of wnd (z := y.1) (x := y.2) (am y hy)
      have e2 := lookup_of wnd (z := x.1) (x := x.2) hx
      rw [e, e2] at e1
      have : y = x := Prod.ext e (Option.some.inj e1).symm
      rw [← this]
      exact hy
end
/-! ### k09: what is spoiled, turned -/
section
variable {P : Program} {w : World} {K : PySem.W.Frag} {mg : Str → Option Value} {base : Heap} {C : Addr}
theorem ok_l_as_draws {f : Addr} {fd : FuncData} (F : Fun K "_law_as_draws" "_law_as_draws" s_l_as_draws f fd) : FnOk P w K mg base CX0 1 f fd ["_law_steps_here"] spAsDraws := by
  refine F.ok sc_l_as_draws (fun vs H Q E h => ?_) (fun cdv A outer s H vs Q E hr h => ?_)
  · obtain ⟨_, _, rfl, _⟩ := h
    rfl
  · obtain ⟨G, l, rfl, hG, lnd, ll, q⟩ := h
    have hu := hu_of hr
    refine ⟨_, (pss_cons (ps_set (i := 1) sc_l_as_draws.nd rfl (Or.inl rfl) pe_dnewK)
      (pss_cons (ps_lock (ps_for PassesOwn.never rfl (pi_keys (pv 0)) (pg_name (i := 2) sc_l_as_draws.nd rfl (Or.inl rfl))
      (pss_one (ps_dput hu (pv 1) (pv 2) (pe_tup (pa_cons (pe_dget hu (pv 0) (pv 2) (fun _ _ => rfl)) (pa_cons pe_int pa_nil))) rfl))))
      (pss_one (ps_ret (pv 1))))), ?_⟩
    walk_at "go"
    intro M mM
    have nGM : G ≠ M := ne_of_none hG mM
    have sM : L2.Same H (upd H M (.dK [])) := same_new mM
    have hMM : (upd H M (.dK [])) M = some (.dK []) := upd_same
    generalize upd H M (.dK []) = HM at sM hMM
    walk_at "go"
    refine x_lock (sM _ _ hG) trivial fun od => ?_
    walk_at "go"
    refine lpK (kvs := strK V.str l) (fun j σ H' => ∃ (v2 : Option V) (m' : List (Str × Addr)), σ = [some (.ref G), some (.ref M), v2] ∧ L2.Same (wo (upd HM G (.frz od (.dK (strK V.str l)))) M) H' ∧ H' M = some (.dK (strK V.ref m')) ∧ m'.map (·.1) = (l.map (·.1)).take j ∧ ∀ z a, (z, a) ∈ m' → ∃ t, l.lookup z = some t ∧ H a = none ∧ a ≠ M ∧ H' a = some (.tup [.str t, .int 1]))
      upd_same ⟨_, [], rfl, wo_same, by rw [upd_ne nGM.symm]; exact hMM, rfl, fun z a h => by cases h⟩ (fun j σ H' _ ⟨_, _, _, s2, _⟩ => s2 G _ (by rw [wo_ne nGM, upd_same])) ?_ ?_
    · rintro j k0 v0 σ H3 hj ⟨v2, m', rfl, s3, hM3, km, am⟩
      obtain ⟨z, y, rfl, rfl, hly⟩ := strK_at hj
      have hjl : j < l.length := (List.getElem?_eq_some_iff.mp hly).1
      have hG3 : H3 G = some (.frz od (.dK (strK V.str l))) := s3 G _ (by rw [wo_ne nGM, upd_same])
      have hz : (l.map (·.1))[j]? = some z := by rw [List.getElem?_map, hly]; rfl
      have fresh : z ∉ m'.map (·.1) := by rw [km]; exact take_notN lnd hz
      have ml : m'.length ≤ 100 := by have := congrArg List.length km; rw [List.length_map, List.length_take, List.length_map] at this; omega
      have hz2 := lookup_of lnd (List.mem_of_getElem? hly)
      walk_at "go"
      refine x_getL (l := l) (.inr ⟨od, hG3⟩) hz2 ?_
      walk_at "go"
      refine ⟨sz_le (by simp), fun p hp => ?_⟩
      have npM : p ≠ M := fun e => by rw [e, hM3] at hp; cases hp
      have hp0 : H p = none := by
        cases e : H p with
        | none => rfl
        | some o =>
          by_cases e2 : p = G
          · rw [e2, hG3] at hp; cases hp
          · have := s3 p o (by rw [wo_ne npM, upd_ne e2]; exact sM _ _ e)
            rw [hp] at this
            cases this
      walk_at "go"
      refine x_putL (l := m') (x := p) (by rw [upd_ne npM.symm]; exact hM3) (by omega) rfl ?_
      refine ⟨_, m' ++ [(z, p)], rfl, same_upd (s3.trans (same_new hp)) wo_at, by rw [upd_same, putL_new _ fresh], by rw [List.map_append, km, take_succ_get hz]; rfl, fun y a hya => ?_⟩
      rcases List.mem_append.mp hya with hya | hya
      · obtain ⟨t, ht, h0, nM, ha⟩ := am y a hya
        exact ⟨t, ht, h0, nM, by rw [upd_ne nM, upd_ne (ne_of_none ha hp)]; exact ha⟩
      · have e := List.mem_singleton.mp hya
        injection e with e1 e2
        subst e1 e2
        exact ⟨_, hz2, hp0, npM, by rw [upd_ne npM]; exact upd_same⟩
    · rintro σ H3 ⟨v2, m', rfl, s3, hM3, km, am⟩
      have el : (strK V.str l).length = (l.map (·.1)).length := by rw [List.length_map, List.length_map]
      rw [el, List.take_length] at km
      have hG3 : H3 G = some (.frz od (.dK (strK V.str l))) := s3 G _ (by rw [wo_ne nGM, upd_same])
      refine ⟨hG3, ?_⟩
      walk_at "go"
      refine q _ M (fun c o ec => ?_) mM ⟨m', (nd_new mM).trans (by rw [upd_ne nGM.symm]; exact hM3), by rw [km, List.map_map]; rfl, fun z a hza => ?_⟩
      · by_cases e2 : c = G
        · subst e2
          rw [upd_same]
          rw [hG] at ec
          exact ec
        · rw [upd_ne e2]
          exact s3 c o (by rw [wo_ne (ne_of_none ec mM), upd_ne e2]; exact sM _ _ ec)
      · obtain ⟨t, ht, h0, nM, ha⟩ := am z a hza
        refine ⟨(t, 1), ?_, (nd_new h0).trans (by rw [upd_ne (fun e => by rw [e, hG] at h0; cases h0)]; exact ha)⟩
        have : ∀ r : List (Str × Str), (r.map fun q => (q.1, (q.2, (1 : Int)))).lookup z = (r.lookup z).map fun t => (t, (1 : Int)) := fun r => by
          induction r with
          | nil => rfl
          | cons q r ih =>
            show List.lookup z ((q.1, (q.2, (1 : Int))) :: r.map _) = (List.lookup z ((q.1, q.2) :: r)).map _
            rw [List.lookup_cons, List.lookup_cons, ih]
            cases z == q.1 <;> rfl
        rw [this, ht]
        rfl
theorem ok_l_spoil_told {f : Addr} {fd : FuncData} (F : Fun K "_law_spoil_told" "_law_spoil_told" s_l_spoil_told f fd) (Z_list : mg "list" = none) (Z_len : mg "len" = none) : FnOk P w K mg base CX0 1 f fd ["_law_stands_here"] spSpoil := by
  refine F.ok sc_l_spoil_told (fun vs H Q E h => ?_) (fun cdv A outer s H vs Q E hr h => ?_)
  · obtain ⟨_, _, _, _, rfl, _⟩ := h
    rfl
  · obtain ⟨D, h, l, G, rfl, sG, hT, g, q⟩ := h
    have hu := hu_of hr
    obtain ⟨m, m1, m2, m3⟩ := id hT.ex
    have hD := nd_same _ _ m1
    have gD : G D = none := by
      rcases (nd_some m1).1 with h | ⟨xs, h⟩
      · exact h
      · have := sG _ _ h; rw [hD] at this; cases this
    have ndm : (m.map (·.1)).Nodup := by rw [m2]; exact g.nd
    have mll : m.length ≤ 100 := by have := congrArg List.length m2; rw [List.length_map, List.length_map] at this; have := g.l2; omega
    refine ⟨_, (pss_cons (ps_for PassesOwn.never rfl (pi_list (pe_callTy (call_list_dK rfl) (by rfl) Z_list (by decide +kernel) (pa_cons (pv 0) pa_nil))) (pg_name (i := 1) sc_l_spoil_told.nd rfl (Or.inl rfl))
      (pss_cons (ps_set (i := 2) sc_l_spoil_told.nd rfl (Or.inl rfl) (pe_dget hu (pv 0) (pv 1) (fun _ _ => rfl)))
      (pss_one (ps_if (pt_cmpR op_gt (pe_callB call_lenA (by rfl) Z_len (by decide +kernel) (pa_cons (pv 2) pa_nil)) pe_int (nomark _))
      (pss_cons (ps_set (i := 3) sc_l_spoil_told.nd rfl (Or.inl rfl) (pe_ix ix_tup (pv 2) (pe_op op_sub (pe_callB call_lenA (by rfl) Z_len (by decide +kernel) (pa_cons (pv 2) pa_nil)) pe_int) (fun _ _ => rfl)))
      (pss_one (ps_expr (pe_dclear (pv 3)))))
      pss_nil))))
      (pss_one (ps_dput hu (pv 0) pe_str (pe_tup (pa_cons pe_str pa_nil)) rfl))), ?_⟩
    walk_at "go"
    refine ⟨D, _, rfl, hD, fun c hc => ?_⟩
    have ekk : (strK V.ref m).map (fun kv => kV kv.1) = strsV (m.map (·.1)) := by
      rw [List.map_map]
      show _ = List.map V.str (List.map _ m)
      rw [List.map_map]
      rfl
    rw [ekk]
    have nDc : D ≠ c := ne_of_none hD hc
    have gc : G c = none := by
      cases e : G c with
      | none => rfl
      | some o => have := sG _ _ e; rw [hc] at this; cases this
    refine lpL (xs := strsV (m.map (·.1))) (fun i σ H' => ∃ v1 v2 v3 : Option V, σ = [some (.ref D), v1, v2, v3] ∧ L2.Same G H' ∧ H' c = some (.lst (strsV (m.map (·.1)))) ∧ H' D = some (.dK (strK V.ref m)) ∧ (∀ b xs, H b = some (.tup xs) → H' b = some (.tup xs)) ∧ ∀ b kvs, H b = some (.dK kvs) → ∃ kvs', H' b = some (.dK kvs'))
      (SqL.of upd_same) ⟨_, _, _, rfl, sG.trans (same_new hc), upd_same, by rw [upd_ne nDc]; exact hD, fun b xs e => same_new hc _ _ e, fun b kvs e => ⟨kvs, same_new hc _ _ e⟩⟩ (fun i σ H' _ ⟨_, _, _, _, _, h, _⟩ => SqL.of h) ?_ ?_
    · rintro i v σ H3 hv ⟨v1, v2, v3, rfl, s3, hc3, hD3, tp, dp⟩
      rw [List.getElem?_map] at hv
      cases hz : (m.map (·.1))[i]? with
      | none => rw [hz] at hv; cases hv
      | some z =>
        rw [hz] at hv
        have ex : V.str z = v := Option.some.inj hv
        subst ex
        obtain ⟨a, ha⟩ := lookup_isSome (List.mem_of_getElem? hz)
        obtain ⟨x, hx, rx⟩ := m3 z a (lookup_mem ha)
        have rx2 : SdAt (wo (nd G H) D) a x := sd_woT m1 (fun y c hyc => (m3 y c hyc).imp fun v hv => hv.2) rx (g.sd z x hx)
        walk_at "go"
        refine x_getL (l := m) (f := V.ref) (.inl hD3) ha ?_
        walk_at "go"
        have at_ : ∀ {b : Addr} {o : HO}, (wo (nd G H) D) b = some o → H b = some o := fun {b o} e => nd_same _ _ (wo_same _ _ e)
        have spoil : ∀ (d : Addr) (kvs : List (Key × V)), (wo (nd G H) D) d = some (.dK kvs) → ∀ (v1 v2 v3 : Option V), ∃ kvs', H3 d = some (.dK kvs') ∧ (L2.Same G (upd H3 d (.dK [])) ∧ (upd H3 d (.dK [])) c = some (.lst (strsV (m.map (·.1)))) ∧ (upd H3 d (.dK [])) D = some (.dK (strK V.ref m)) ∧ (∀ b xs, H b = some (.tup xs) → (upd H3 d (.dK [])) b = some (.tup xs)) ∧ ∀ b kvs, H b = some (.dK kvs) → ∃ kvs', (upd H3 d (.dK [])) b = some (.dK kvs')) := fun d kvs e v1 v2 v3 => by
          obtain ⟨e1, nDd⟩ := wo_some e
          have hd := nd_same _ _ e1
          obtain ⟨kvs', hd3⟩ := dp d kvs hd
          have gd : G d = none := by
            rcases (nd_some e1).1 with h | ⟨xs, h⟩
            · exact h
            · have := sG _ _ h; rw [hd] at this; cases this
          have ndc : d ≠ c := ne_of_none hd hc
          refine ⟨kvs', hd3, same_upd s3 gd, by rw [upd_ne ndc.symm]; exact hc3, by rw [upd_ne nDd.symm]; exact hD3, fun b xs e => ?_, fun b kvs e => ?_⟩
          · rw [upd_ne (fun q => by rw [q, hd] at e; cases e)]
            exact tp b xs e
          · by_cases q : b = d
            · rw [q]; exact ⟨[], upd_same⟩
            · rw [upd_ne q]; exact dp b kvs e
        cases x with
        | fin =>
          have h1 : H3 a = some (.tup [.str "end"]) := tp a _ (at_ rx2)
          refine x_lenT (SqT.of h1) ?_
          walk_at "go"
          refine x_no (by decide) ?_
          walk_at "go"
          exact ⟨_, _, _, rfl, s3, hc3, hD3, tp, dp⟩
        | chance l2 =>
          obtain ⟨d, r1, r2⟩ := rx2
          obtain ⟨m2', r3, _, _⟩ := r2.ex
          have h1 : H3 a = some (.tup [.str "chance", .ref d]) := tp a _ (at_ r1)
          obtain ⟨kvs', hd3, fin⟩ := spoil d _ r3 v1 v2 v3
          refine x_lenT (SqT.of h1) ?_
          walk_at "go"
          refine x_yes (by simp) ?_
          walk_at "go"
          refine x_lenT (SqT.of h1) ?_
          walk_at "go"
          refine x_ixt 1 (SqT.of h1) rfl rfl ?_
          walk_at "go"
          exact ⟨.inr (.inr (.inl ⟨rfl, .inl ⟨_, hd3⟩⟩)), d, kvs', rfl, rfl, hd3, _, _, _, rfl, fin⟩
        | hand k l2 =>
          obtain ⟨d, r1, r2⟩ := rx2
          have h1 : H3 a = some (.tup [.str "hand", .int k, .ref d]) := tp a _ (at_ r1)
          obtain ⟨kvs', hd3, fin⟩ := spoil d _ r2 v1 v2 v3
          refine x_lenT (SqT.of h1) ?_
          walk_at "go"
          refine x_yes (by simp) ?_
          walk_at "go"
          refine x_lenT (SqT.of h1) ?_
          walk_at "go"
          refine x_ixt 2 (SqT.of h1) rfl rfl ?_
          walk_at "go"
          exact ⟨.inr (.inr (.inl ⟨rfl, .inl ⟨_, hd3⟩⟩)), d, kvs', rfl, rfl, hd3, _, _, _, rfl, fin⟩
    · rintro σ H3 ⟨v1, v2, v3, rfl, s3, hc3, hD3, tp, dp⟩
      walk_at "go"
      refine ⟨sz_le (by simp), fun p hp => ?_⟩
      walk_at "go"
      have npD : p ≠ D := fun e => by rw [e, hD3] at hp; cases hp
      refine x_putL (l := m) (x := p) (by rw [upd_ne npD.symm]; exact hD3) (by omega) rfl ?_
      walk_at "go"
      exact q _ (same_upd (s3.trans (same_new hp)) gD)
end
/-! ### k09: a table turned about (printed by gen09d.py) -/
def reL {α : Type} (l : List (Str × α)) (d : α) (ys : List Str) : List (Str × α) := ys.map fun z => (z, (l.lookup z).getD d)
theorem re_keys {α : Type} {l : List (Str × α)} {d : α} {ys : List Str} : (reL l d ys).map (·.1) = ys := by
  unfold reL
  rw [List.map_map]
  exact (List.map_congr_left fun _ _ => rfl).trans (List.map_id _)
theorem re_perm {α : Type} {l : List (Str × α)} {d : α} {ys : List Str} (h : ys.Perm (l.map (·.1))) (nd : (l.map (·.1)).Nodup) : (reL l d ys).Perm l := by
  have e : (l.map (·.1)).map (fun z => (z, (l.lookup z).getD d)) = l := by
    rw [List.map_map]
    refine (List.map_congr_left fun q hq => ?_).trans (List.map_id _)
    show (q.1, (l.lookup q.1).getD d) = q
    rw [lookup_of nd (z := q.1) (x := q.2) hq]
    rfl
  have p := h.map (fun z => (z, (l.lookup z).getD d))
  rw [e] at p
  exact p
/-- the same stand, its steps in any order -/
def SdPm : Sd → Sd → Prop
  | .fin, .fin => True
  | .chance l, .chance l' => l'.Perm l
  | .hand k l, .hand k' l' => k' = k ∧ l'.Perm l
  | _, _ => False
theorem SdPm.good {h : Int} {ns : List Str} {x x' : Sd} (p : SdPm x x') (g : GoodSd h ns x) : GoodSd h ns x' := by
  cases x <;> cases x' <;> first | exact p.elim | trivial | skip
  · obtain ⟨g1, g2, g3, g4⟩ := g
    have p : List.Perm _ _ := p
    exact ⟨((p.map _).nodup_iff).mpr g1, by rw [p.length_eq]; exact g2, by rw [p.length_eq]; exact g3, fun q hq => g4 q (p.mem_iff.mp hq)⟩
  · obtain ⟨rfl, p⟩ := p
    obtain ⟨g1, g2, g3, g4, g5, g6⟩ := g
    exact ⟨g1, g2, ((p.map _).nodup_iff).mpr g3, by rw [p.length_eq]; exact g4, by rw [p.length_eq]; exact g5, fun q hq => g6 q (p.mem_iff.mp hq)⟩
theorem SdPm.eq {x x' : Sd} (p : SdPm x x') (n : NdS x) : eqSd x x' = true := by
  cases x <;> cases x' <;> first | exact p.elim | rfl | skip
  · exact eqA_perm eqPr_refl p n
  · obtain ⟨rfl, p⟩ := p
    show ((_ == _) && _) = true
    rw [beq_self_eq_true, Bool.true_and]
    exact eqA_perm (fun x => beq_self_eq_true x) p n
def spTurned : Sp := fun vs H Q _ => ∃ (D : Addr) (h : Int) (l : List (Str × Sd)), vs = [.ref D] ∧ DictOf SdAt H D l ∧ GoodT h l ∧ ∀ H' F l', L2.Same H H' → H F = none → DictOf SdAt H' F l' → GoodT h l' → eqT l l' = true → Q (.ref F) H'
section
variable {P : Program} {w : World} {K : PySem.W.Frag} {mg : Str → Option Value} {base : Heap} {C : Addr}
theorem ok_l_turned {f : Addr} {fd : FuncData} (F : Fun K "_law_turned" "_law_turned" s_l_turned f fd) (Z_list : mg "list" = none) (Z_len : mg "len" = none) : FnOk P w K mg base CX0 1 f fd ["_law_stands_here"] spTurned := by
  refine F.ok sc_l_turned (fun vs H Q E h => ?_) (fun cdv A outer s H vs Q E hr h => ?_)
  · obtain ⟨_, _, _, rfl, _⟩ := h
    rfl
  · obtain ⟨D, h, l, rfl, hT, g, q⟩ := h
    have hu := hu_of hr
    have g2 := g.l2
    obtain ⟨mD, hD, hmk, hm⟩ := id hT.ex
    refine ⟨_, (pss_cons (ps_set (i := 1) sc_l_turned.nd rfl (Or.inl rfl) pe_dnewK)
      (pss_cons (ps_for PassesOwn.never rfl (pi_list (pe_revL (pe_callTy (call_list_dK rfl) (by rfl) Z_list (by decide +kernel) (pa_cons (pv 0) pa_nil)))) (pg_name (i := 2) sc_l_turned.nd rfl (Or.inl rfl))
      (pss_cons (ps_set (i := 3) sc_l_turned.nd rfl (Or.inl rfl) (pe_dget hu (pv 0) (pv 2) (fun _ _ => rfl)))
      (pss_one (ps_if (pt_cmpR op_eq (pe_callB call_lenA (by rfl) Z_len (by decide +kernel) (pa_cons (pv 3) pa_nil)) pe_int (nomark _))
      (pss_one (ps_dput hu (pv 1) (pv 2) (pe_tup (pa_cons pe_str pa_nil)) rfl))
      (pss_cons (ps_set (i := 4) sc_l_turned.nd rfl (Or.inl rfl) pe_dnewK)
      (pss_cons (ps_for PassesOwn.never rfl (pi_list (pe_revL (pe_callTy (call_list_dK rfl) (by rfl) Z_list (by decide +kernel) (pa_cons (pe_ix ix_tup (pv 3) (pe_op op_sub (pe_callB call_lenA (by rfl) Z_len (by decide +kernel) (pa_cons (pv 3) pa_nil)) pe_int) (fun _ _ => rfl)) pa_nil)))) (pg_name (i := 5) sc_l_turned.nd rfl (Or.inl rfl))
      (pss_one (ps_dput hu (pv 4) (pv 5) (pe_dget hu (pe_ix ix_tup (pv 3) (pe_op op_sub (pe_callB call_lenA (by rfl) Z_len (by decide +kernel) (pa_cons (pv 3) pa_nil)) pe_int) (fun _ _ => rfl)) (pv 5) (fun _ _ => rfl)) rfl)))
      (pss_one (ps_dput hu (pv 1) (pv 2) (pe_op op_catA (pe_slice sl_tup (pv 3) po_none (po_some (pe_op op_sub (pe_callB call_lenA (by rfl) Z_len (by decide +kernel) (pa_cons (pv 3) pa_nil)) pe_int))) (pe_tup (pa_cons (pv 4) pa_nil))) rfl))))))))
      (pss_one (ps_ret (pv 1))))), ?_⟩
    walk_at "go"
    intro R nR
    have nDR : D ≠ R := ne_of_none hD nR
    have s1 : L2.Same H (upd H R (.dK [])) := same_new nR
    have hR1 : (upd H R (.dK [])) R = some (.dK []) := upd_same
    generalize upd H R (.dK []) = H1 at s1 hR1
    walk_at "go"
    refine ⟨D, _, rfl, s1 _ _ hD, fun c1 hc1 => ?_⟩
    have nRc1 : R ≠ c1 := ne_of_none hR1 hc1
    have ekk : (strK V.ref mD).map (fun kv => kV kv.1) = strsV (l.map (·.1)) := by
      rw [← hmk, List.map_map]
      show _ = List.map V.str (List.map _ mD)
      rw [List.map_map]
      rfl
    rw [ekk]
    have s2 : L2.Same H (upd H1 c1 (.lst (strsV (l.map (·.1))))) := s1.trans (same_new hc1)
    have hR2 : (upd H1 c1 (.lst (strsV (l.map (·.1))))) R = some (.dK []) := by rw [upd_ne nRc1]; exact hR1
    have hc12 : (upd H1 c1 (.lst (strsV (l.map (·.1))))) c1 = some (.lst (strsV (l.map (·.1)))) := upd_same
    generalize upd H1 c1 (.lst (strsV (l.map (·.1)))) = H2 at s2 hR2 hc12
    refine x_rev (SqL.of hc12) fun c hc => ?_
    rw [show (strsV (l.map (·.1))).reverse = strsV (l.map (·.1)).reverse from (List.map_reverse ..).symm]
    have nRc : R ≠ c := ne_of_none hR2 hc
    have s3 : L2.Same H (upd H2 c (.lst (strsV (l.map (·.1)).reverse))) := s2.trans (same_new hc)
    have hR3 : (upd H2 c (.lst (strsV (l.map (·.1)).reverse))) R = some (.dK []) := by rw [upd_ne nRc]; exact hR2
    have hc3 : (upd H2 c (.lst (strsV (l.map (·.1)).reverse))) c = some (.lst (strsV (l.map (·.1)).reverse)) := upd_same
    generalize upd H2 c (.lst (strsV (l.map (·.1)).reverse)) = H3 at s3 hR3 hc3
    have hperm : ((l.map (·.1)).reverse).Perm (l.map (·.1)) := List.reverse_perm _
    generalize (l.map (·.1)).reverse = ys at hperm hc3
    have ynd : ys.Nodup := (hperm.nodup_iff).mpr g.nd
    have yl : ys.length = l.length := by rw [hperm.length_eq, List.length_map]
    refine lpL (xs := strsV ys) (fun i σ H' => ∃ (v2 v3 v4 v5 : Option V) (acc : List (Str × Sd)), σ = [some (.ref D), some (.ref R), v2, v3, v4, v5] ∧ L2.Same H H' ∧ H' c = some (.lst (strsV ys)) ∧ DictW SdAt H' R acc ∧ acc.map (·.1) = ys.take i ∧ ∀ y w, acc.lookup y = some w → ∃ x, l.lookup y = some x ∧ SdPm x w) (SqL.of hc3) ?_ ?_ ?_ ?_
    · exact ⟨_, _, _, _, [], rfl, s3, hc3, .nil hR3, by rw [List.take_zero]; rfl, fun z x2 hx => by cases hx⟩
    · exact fun i σ H' _ ⟨_, _, _, _, _, _, _, h, _⟩ => SqL.of h
    · rintro i v σ H4 hv ⟨v2, v3, v4, v5, acc, rfl, s4, hc4, hW, ak, av⟩
      rw [List.getElem?_map] at hv
      cases hz : ys[i]? with
      | none => rw [hz] at hv; cases hv
      | some z =>
        rw [hz] at hv
        have ex : V.str z = v := Option.some.inj hv
        subst ex
        have hzl : z ∈ l.map (·.1) := hperm.mem_iff.mp (List.mem_of_getElem? hz)
        have hzn : z ∉ acc.map (·.1) := by rw [ak]; exact take_notN ynd hz
        have hal : acc.length ≤ 100 := by
          have := congrArg List.length ak
          rw [List.length_map, List.length_take] at this
          omega
        obtain ⟨ra, hra⟩ := lookup_isSome (l := mD) (z := z) (by rw [hmk]; exact hzl)
        obtain ⟨x, hx, hxa⟩ := hm z ra (lookup_mem hra)
        have gx := g.sd z x hx
        obtain ⟨mR, hR4, hmRk, hmRv⟩ := id hW.ex
        have hmRl : mR.length ≤ 100 := by
          have := congrArg List.length hmRk
          rw [List.length_map, List.length_map] at this
          omega
        have ncR : c ≠ R := nRc.symm
        -- a row that was made is laid
        have fin : ∀ (H' : Hp) (V2 : Addr) (x2 : Sd), (∀ b o, H4 b = some o → H' b = some o) → SdAt (wo H' R) V2 x2 → SdPm x x2 → ∀ (v2 v3 v4 v5 : Option V), ∃ (v2' v3' v4' v5' : Option V) (acc' : List (Str × Sd)), [some (.ref D), some (.ref R), v2, v3, v4, v5] = [some (.ref D), some (.ref R), v2', v3', v4', v5'] ∧ L2.Same H (upd H' R (.dK (strK V.ref (putL mR z V2)))) ∧ (upd H' R (.dK (strK V.ref (putL mR z V2)))) c = some (.lst (strsV ys)) ∧ DictW SdAt (upd H' R (.dK (strK V.ref (putL mR z V2)))) R acc' ∧ acc'.map (·.1) = ys.take (i + 1) ∧ ∀ y w, acc'.lookup y = some w → ∃ x, l.lookup y = some x ∧ SdPm x w := by
          intro H' V2 x2 s' hx2 pm v2 v3 v4 v5
          obtain ⟨mR', e1, e2, e3⟩ := (DictW.same monoS hW s').ex
          have em : mR' = mR := by
            have := s' _ _ hR4
            rw [e1] at this
            exact lookup_fun (by injection this with t; injection t)
          subst em
          refine ⟨v2, v3, v4, v5, putL acc z x2, rfl, same_upd (fun b o e => s' b o (s4 b o e)) nR, by rw [upd_ne ncR]; exact s' _ _ hc4, DictW.put e2 e3 hx2, ?_, fun y w hy => ?_⟩
          · rw [putL_new _ hzn, List.map_append, ak, take_succ_get hz]
            rfl
          · rw [lookup_putL] at hy
            by_cases e : y = z
            · rw [if_pos e] at hy
              cases hy
              exact ⟨x, by rw [e]; exact hx, pm⟩
            · rw [if_neg e] at hy
              exact av y w hy
        walk_at "go"
        refine x_getL (l := mD) (f := V.ref) (.inl (s4 _ _ hD)) hra ?_
        walk_at "go"
        cases x with
        | fin =>
          have hb : H ra = some (.tup [.str "end"]) := hxa
          refine x_lenT (SqT.of (s4 _ _ hb)) ?_
          walk_at "go"
          refine x_yes rfl ?_
          walk_at "go"
          refine ⟨sz_le (by simp), fun V2 nV2 => ?_⟩
          have nVR : V2 ≠ R := fun e => by rw [e, hR4] at nV2; cases nV2
          walk_at "go"
          refine x_putL (l := mR) (x := V2) (by rw [upd_ne nVR.symm]; exact hR4) (by omega) rfl ?_
          exact fin _ V2 .fin (fun b o e => same_new nV2 b o e) (show wo _ R V2 = _ by rw [wo_ne nVR]; exact upd_same) trivial _ _ _ _
        | hand k2 l2 =>
          obtain ⟨d2, hb, hd⟩ := hxa
          obtain ⟨_, _, n2, l1, l4, _⟩ := gx
          refine x_lenT (SqT.of (s4 _ _ hb)) ?_
          walk_at "go"
          refine x_no (by simp) ?_
          walk_at "go"
          intro S nS
          have nRS : R ≠ S := ne_of_none hR4 nS
          have s5 : L2.Same H (upd H4 S (.dK [])) := s4.trans (same_new nS)
          have hS5 : (upd H4 S (.dK [])) S = some (.dK []) := upd_same
          have k5 : L2.Same H4 (upd H4 S (.dK [])) := same_new nS
          generalize upd H4 S (.dK []) = H5 at s5 hS5 k5 ⊢
          walk_at "go"
          refine x_lenT (SqT.of (s5 _ _ hb)) ?_
          walk_at "go"
          refine x_ixt 2 (SqT.of (s5 _ _ hb)) rfl rfl ?_
          walk_at "go"
          refine ⟨d2, _, rfl, s5 _ _ hd, fun e1 he1 => ?_⟩
          have ek2 : (strK V.str l2).map (fun kv => kV kv.1) = strsV (l2.map (·.1)) := by
            rw [List.map_map]
            show _ = List.map V.str (List.map _ l2)
            rw [List.map_map]
            rfl
          rw [ek2]
          refine x_rev (SqL.of upd_same) fun e2 he2 => ?_
          rw [show (strsV (l2.map (·.1))).reverse = strsV (l2.map (·.1)).reverse from (List.map_reverse ..).symm]
          have k6 : L2.Same H5 (upd (upd H5 e1 (.lst (strsV (l2.map (·.1))))) e2 (.lst (strsV (l2.map (·.1)).reverse))) := (same_new he1).trans (same_new he2)
          have h26 : (upd (upd H5 e1 (.lst (strsV (l2.map (·.1))))) e2 (.lst (strsV (l2.map (·.1)).reverse))) e2 = some (.lst (strsV (l2.map (·.1)).reverse)) := upd_same
          generalize upd (upd H5 e1 (.lst (strsV (l2.map (·.1))))) e2 (.lst (strsV (l2.map (·.1)).reverse)) = H6 at k6 h26 ⊢
          have s6 := s5.trans k6
          have hS6 := k6 _ _ hS5
          have nSe2 : S ≠ e2 := ne_of hS6 h26 (by intro z; cases z)
          have perm2 : ((l2.map (·.1)).reverse).Perm (l2.map (·.1)) := List.reverse_perm _
          generalize (l2.map (·.1)).reverse = zs at perm2 h26 ⊢
          have znd : zs.Nodup := (perm2.nodup_iff).mpr n2
          have zl : zs.length ≤ 4 := by rw [perm2.length_eq, List.length_map]; omega
          have nSH : H S = none := s4.free nS
          have nSR : S ≠ R := nRS.symm
          refine lpL (xs := strsV zs) (fun j σ H' => ∃ v5 : Option V, σ = [some (.ref D), some (.ref R), some (.str z), some (.ref ra), some (.ref S), v5] ∧ L2.Same (wo H6 S) H' ∧ H' S = some (.dK (strK V.str (reL l2 "" (zs.take j))))) (SqL.of h26) ⟨_, rfl, wo_same, hS6⟩
            (fun j σ H' _ ⟨_, _, s', _⟩ => SqL.of (s' _ _ (by rw [wo_ne nSe2.symm]; exact h26))) ?_ ?_
          · rintro j v σ H7 hv ⟨v5, rfl, s7, hS7⟩
            rw [List.getElem?_map] at hv
            cases hy : zs[j]? with
            | none => rw [hy] at hv; cases hv
            | some y =>
              rw [hy] at hv
              have ex : V.str y = v := Option.some.inj hv
              subst ex
              obtain ⟨u, hu2⟩ := lookup_isSome (l := l2) (perm2.mem_iff.mp (List.mem_of_getElem? hy))
              have old : ∀ b o, H b = some o → H7 b = some o := fun b o e => s7 b o (by rw [wo_ne (ne_of_none e nSH)]; exact s6 b o e)
              walk_at "go"
              refine x_lenT (SqT.of (old _ _ hb)) ?_
              walk_at "go"
              refine x_ixt 2 (SqT.of (old _ _ hb)) rfl rfl ?_
              walk_at "go"
              refine x_getL (l := l2) (.inl (old _ _ hd)) hu2 ?_
              walk_at "go"
              have fresh : y ∉ (reL l2 "" (zs.take j)).map (·.1) := by rw [re_keys]; exact take_notN znd hy
              refine x_putL (l := reL l2 "" (zs.take j)) (x := u) hS7 (by unfold reL; rw [List.length_map, List.length_take]; omega) rfl ?_
              refine ⟨_, rfl, same_upd s7 wo_at, ?_⟩
              rw [upd_same, putL_new _ fresh, take_succ_get hy]
              unfold reL
              rw [List.map_append]
              show _ = some (HO.dK (strK V.str (_ ++ [(y, (l2.lookup y).getD "")])))
              rw [hu2]
              rfl
          · rintro σ H7 ⟨v5, rfl, s7, hS7⟩
            rw [List.length_map, List.take_length] at hS7
            have old : ∀ b o, H b = some o → H7 b = some o := fun b o e => s7 b o (by rw [wo_ne (ne_of_none e nSH)]; exact s6 b o e)
            have kept : ∀ b o, H4 b = some o → H7 b = some o := fun b o e => s7 b o (by rw [wo_ne (ne_of_none e nS)]; exact k6 _ _ (k5 b o e))
            walk_at "go"
            refine x_lenT (SqT.of (old _ _ hb)) ?_
            walk_at "go"
            refine ⟨ra, _, rfl, SqT.of (old _ _ hb), (show ¬ (HT.sIx 3 0 none = 0 ∧ HT.sIx 3 3 (some (((3 : Nat) : Int) - 1)) = 3) by decide), fun T1 nT1 => ?_⟩
            have ec : cutV ([.str "hand", .int k2, .ref d2] : List V) none (some ((([.str "hand", .int k2, .ref d2] : List V).length : Int) - 1)) = ([.str "hand", .int k2] : List V) := rfl
            rw [ec]
            have hT1 : (upd H7 T1 (.tup [.str "hand", .int k2])) T1 = some (.tup [.str "hand", .int k2]) := upd_same
            have k8 : L2.Same H7 (upd H7 T1 (.tup [.str "hand", .int k2])) := same_new nT1
            generalize upd H7 T1 (.tup [.str "hand", .int k2]) = H8 at hT1 k8 ⊢
            walk_at "go"
            refine ⟨sz_le (by simp), fun V1 nV1 => ?_⟩
            have hV1 : (upd H8 V1 (.tup [.ref S])) V1 = some (.tup [.ref S]) := upd_same
            have k9 : L2.Same H8 (upd H8 V1 (.tup [.ref S])) := same_new nV1
            generalize upd H8 V1 (.tup [.ref S]) = H9 at hV1 k9 ⊢
            walk_at "go"
            refine x_catA (SqT.of (k9 _ _ hT1)) hV1 (by simp) (by simp) fun V2 H10 k10 hV2 => ?_
            have k710 : L2.Same H7 H10 := k8.trans (k9.trans k10)
            have hS10 := k710 _ _ hS7
            have hR10 := k710 _ _ (kept _ _ hR4)
            have nVR : V2 ≠ R := ne_of hV2 hR10 (by intro z; cases z)
            walk_at "go"
            refine x_putL (l := mR) (x := V2) hR10 (by omega) rfl ?_
            refine fin H10 V2 (.hand k2 (reL l2 "" zs)) (fun b o e => k710 b o (kept b o e)) ⟨S, by rw [wo_ne nVR]; exact hV2, by rw [wo_ne nSR]; exact hS10⟩ (by exact ⟨rfl, re_perm perm2 n2⟩) _ _ _ _
        | chance l3 =>
          obtain ⟨d2, hb, hdD⟩ := hxa
          obtain ⟨n2, l1, l4, _⟩ := gx
          obtain ⟨m2, r3, mk2, mv2⟩ := hdD.ex
          have nm2 : (m2.map (·.1)).Nodup := by rw [mk2]; exact n2
          have m24 : m2.length ≤ 4 := by have := congrArg List.length mk2; rw [List.length_map, List.length_map] at this; omega
          have pairs : ∀ (H' : Hp) (S : Addr) (zs : List Str), zs.Perm (m2.map (·.1)) → wo H' R S = some (.dK (strK V.ref (reL m2 0 zs))) → (∀ b o, H b = some o → wo H' R b = some o) → DictOf PairAt (wo H' R) S (reL l3 default zs) := fun H' S zs p e k => ⟨reL m2 0 zs, e, by rw [re_keys, re_keys], fun y a hya => by
            have hy : y ∈ m2.map (·.1) := p.mem_iff.mp (by rw [← re_keys (l := m2) (d := 0) (ys := zs)]; exact List.mem_map.mpr ⟨_, hya, rfl⟩)
            have hya2 := (re_perm p nm2).mem_iff.mp hya
            obtain ⟨x, hx, hr⟩ := mv2 y a hya2
            exact ⟨x, by rw [lookup_perm (re_perm (by rw [← mk2]; exact p) n2) n2]; exact hx, k a _ hr⟩⟩
          refine x_lenT (SqT.of (s4 _ _ hb)) ?_
          walk_at "go"
          refine x_no (by simp) ?_
          walk_at "go"
          intro S nS
          have nRS : R ≠ S := ne_of_none hR4 nS
          have s5 : L2.Same H (upd H4 S (.dK [])) := s4.trans (same_new nS)
          have hS5 : (upd H4 S (.dK [])) S = some (.dK []) := upd_same
          have k5 : L2.Same H4 (upd H4 S (.dK [])) := same_new nS
          generalize upd H4 S (.dK []) = H5 at s5 hS5 k5 ⊢
          walk_at "go"
          refine x_lenT (SqT.of (s5 _ _ hb)) ?_
          walk_at "go"
          refine x_ixt 1 (SqT.of (s5 _ _ hb)) rfl rfl ?_
          walk_at "go"
          refine ⟨d2, _, rfl, s5 _ _ r3, fun e1 he1 => ?_⟩
          have ek2 : (strK V.ref m2).map (fun kv => kV kv.1) = strsV (m2.map (·.1)) := by
            rw [List.map_map]
            show _ = List.map V.str (List.map _ m2)
            rw [List.map_map]
            rfl
          rw [ek2]
          refine x_rev (SqL.of upd_same) fun e2 he2 => ?_
          rw [show (strsV (m2.map (·.1))).reverse = strsV (m2.map (·.1)).reverse from (List.map_reverse ..).symm]
          have k6 : L2.Same H5 (upd (upd H5 e1 (.lst (strsV (m2.map (·.1))))) e2 (.lst (strsV (m2.map (·.1)).reverse))) := (same_new he1).trans (same_new he2)
          have h26 : (upd (upd H5 e1 (.lst (strsV (m2.map (·.1))))) e2 (.lst (strsV (m2.map (·.1)).reverse))) e2 = some (.lst (strsV (m2.map (·.1)).reverse)) := upd_same
          generalize upd (upd H5 e1 (.lst (strsV (m2.map (·.1))))) e2 (.lst (strsV (m2.map (·.1)).reverse)) = H6 at k6 h26 ⊢
          have s6 := s5.trans k6
          have hS6 := k6 _ _ hS5
          have nSe2 : S ≠ e2 := ne_of hS6 h26 (by intro z; cases z)
          have perm2 : ((m2.map (·.1)).reverse).Perm (m2.map (·.1)) := List.reverse_perm _
          generalize (m2.map (·.1)).reverse = zs at perm2 h26 ⊢
          have znd : zs.Nodup := (perm2.nodup_iff).mpr nm2
          have zl : zs.length ≤ 4 := by rw [perm2.length_eq, List.length_map]; omega
          have nSH : H S = none := s4.free nS
          have nSR : S ≠ R := nRS.symm
          refine lpL (xs := strsV zs) (fun j σ H' => ∃ v5 : Option V, σ = [some (.ref D), some (.ref R), some (.str z), some (.ref ra), some (.ref S), v5] ∧ L2.Same (wo H6 S) H' ∧ H' S = some (.dK (strK V.ref (reL m2 0 (zs.take j))))) (SqL.of h26) ⟨_, rfl, wo_same, hS6⟩
            (fun j σ H' _ ⟨_, _, s', _⟩ => SqL.of (s' _ _ (by rw [wo_ne nSe2.symm]; exact h26))) ?_ ?_
          · rintro j v σ H7 hv ⟨v5, rfl, s7, hS7⟩
            rw [List.getElem?_map] at hv
            cases hy : zs[j]? with
            | none => rw [hy] at hv; cases hv
            | some y =>
              rw [hy] at hv
              have ex : V.str y = v := Option.some.inj hv
              subst ex
              obtain ⟨u, hu2⟩ := lookup_isSome (l := m2) (perm2.mem_iff.mp (List.mem_of_getElem? hy))
              have old : ∀ b o, H b = some o → H7 b = some o := fun b o e => s7 b o (by rw [wo_ne (ne_of_none e nSH)]; exact s6 b o e)
              walk_at "go"
              refine x_lenT (SqT.of (old _ _ hb)) ?_
              walk_at "go"
              refine x_ixt 1 (SqT.of (old _ _ hb)) rfl rfl ?_
              walk_at "go"
              refine x_getL (l := m2) (.inl (old _ _ r3)) hu2 ?_
              walk_at "go"
              have fresh : y ∉ (reL m2 0 (zs.take j)).map (·.1) := by rw [re_keys]; exact take_notN znd hy
              refine x_putL (l := reL m2 0 (zs.take j)) (x := u) hS7 (by unfold reL; rw [List.length_map, List.length_take]; omega) rfl ?_
              refine ⟨_, rfl, same_upd s7 wo_at, ?_⟩
              rw [upd_same, putL_new _ fresh, take_succ_get hy]
              unfold reL
              rw [List.map_append]
              show _ = some (HO.dK (strK V.ref (_ ++ [(y, (m2.lookup y).getD 0)])))
              rw [hu2]
              rfl
          · rintro σ H7 ⟨v5, rfl, s7, hS7⟩
            rw [List.length_map, List.take_length] at hS7
            have old : ∀ b o, H b = some o → H7 b = some o := fun b o e => s7 b o (by rw [wo_ne (ne_of_none e nSH)]; exact s6 b o e)
            have kept : ∀ b o, H4 b = some o → H7 b = some o := fun b o e => s7 b o (by rw [wo_ne (ne_of_none e nS)]; exact k6 _ _ (k5 b o e))
            walk_at "go"
            refine x_lenT (SqT.of (old _ _ hb)) ?_
            walk_at "go"
            refine ⟨ra, _, rfl, SqT.of (old _ _ hb), (show ¬ (HT.sIx 2 0 none = 0 ∧ HT.sIx 2 2 (some (((2 : Nat) : Int) - 1)) = 2) by decide), fun T1 nT1 => ?_⟩
            have ec : cutV ([.str "chance", .ref d2] : List V) none (some ((([.str "chance", .ref d2] : List V).length : Int) - 1)) = ([.str "chance"] : List V) := rfl
            rw [ec]
            have hT1 : (upd H7 T1 (.tup [.str "chance"])) T1 = some (.tup [.str "chance"]) := upd_same
            have k8 : L2.Same H7 (upd H7 T1 (.tup [.str "chance"])) := same_new nT1
            generalize upd H7 T1 (.tup [.str "chance"]) = H8 at hT1 k8 ⊢
            walk_at "go"
            refine ⟨sz_le (by simp), fun V1 nV1 => ?_⟩
            have hV1 : (upd H8 V1 (.tup [.ref S])) V1 = some (.tup [.ref S]) := upd_same
            have k9 : L2.Same H8 (upd H8 V1 (.tup [.ref S])) := same_new nV1
            generalize upd H8 V1 (.tup [.ref S]) = H9 at hV1 k9 ⊢
            walk_at "go"
            refine x_catA (SqT.of (k9 _ _ hT1)) hV1 (by simp) (by simp) fun V2 H10 k10 hV2 => ?_
            have k710 : L2.Same H7 H10 := k8.trans (k9.trans k10)
            have hS10 := k710 _ _ hS7
            have hR10 := k710 _ _ (kept _ _ hR4)
            have nVR : V2 ≠ R := ne_of hV2 hR10 (by intro z; cases z)
            walk_at "go"
            refine x_putL (l := mR) (x := V2) hR10 (by omega) rfl ?_
            refine fin H10 V2 (.chance (reL l3 default zs)) (fun b o e => k710 b o (kept b o e)) ⟨S, by rw [wo_ne nVR]; exact hV2, pairs H10 S zs perm2 (by rw [wo_ne nSR]; exact hS10) (fun b o e => by have n : b ≠ R := ne_of_none e nR; rw [wo_ne n]; exact k710 b o (old b o e))⟩ (by exact re_perm (by rw [← mk2]; exact perm2) n2) _ _ _ _
    · rintro σ H4 ⟨v2, v3, v4, v5, acc, rfl, s4, hc4, hW, ak, av⟩
      rw [List.length_map, List.take_length] at ak
      walk_at "go"
      have gA : GoodT h acc := ⟨by rw [ak]; exact ynd, by have := congrArg List.length ak; rw [List.length_map] at this; have := g.l1; omega, by have := congrArg List.length ak; rw [List.length_map] at this; omega, fun z hz => g.nm z (hperm.mem_iff.mp (by rw [← ak]; exact hz)), fun z x hx => by
        obtain ⟨x0, h0, p⟩ := av z x hx
        have := p.good (g.sd z x0 h0)
        exact this.perm fun t ht => by rw [ak]; exact hperm.mem_iff.mpr ht⟩
      refine q H4 R acc s4 nR (hW.of monoS) gA ((eqT_iff g.ndT gA.ndT).mpr fun z => ?_)
      cases e : l.lookup z with
      | none => cases e2 : acc.lookup z with
        | none => trivial
        | some y => obtain ⟨x, hx, _⟩ := av z y e2; rw [e] at hx; cases hx
      | some x =>
        obtain ⟨y, hy⟩ := lookup_isSome (l := acc) (z := z) (by rw [ak]; exact hperm.mem_iff.mpr (List.mem_map.mpr ⟨_, lookup_mem e, rfl⟩))
        obtain ⟨x2, hx2, p⟩ := av z y hy
        rw [e] at hx2
        cases hx2
        rw [hy]
        exact p.eq (g.sd z x e).ndS
end
/-! ### k09: another world -/
/-- a dict without one key -/
def delL {α : Type} (l : List (Str × α)) (z : Str) : List (Str × α) := l.filter fun q => decide (q.1 ≠ z)
theorem strK_del {α : Type} {f : α → V} (l : List (Str × α)) (z : Str) : dropK (strK f l) (Sum.inr z : Key) = strK f (delL l z) := by
  unfold dropK delL strK
  rw [List.filter_map]
  refine congrArg _ (List.filter_congr fun q _ => ?_)
  show decide ((Sum.inr q.1 : Key) ≠ Sum.inr z) = decide (q.1 ≠ z)
  by_cases e : q.1 = z
  · rw [e]; simp
  · have : (Sum.inr q.1 : Key) ≠ Sum.inr z := fun h => e (Sum.inr.inj h)
    simp [e]
theorem x_dpop {α : Type} {f : α → V} {l : List (Str × α)} {z : Str} {x : α} {d : Addr} {H : Hp} {Q : V → Hp → Prop} (h : H d = some (.dK (strK f l))) (e : l.lookup z = some x) (q : Q (f x) (upd H d (.dK (strK f (delL l z))))) :
    ∃ (kvs : List (Key × V)) (k : Key) (v : V), H d = some (.dK kvs) ∧ V.str z = kV k ∧ valV kvs k = some v ∧ Q v (upd H d (.dK (dropK kvs k))) :=
  ⟨_, Sum.inr z, f x, h, rfl, by rw [strK_look, e]; rfl, by rw [strK_del]; exact q⟩
theorem delL_nd {α : Type} {l : List (Str × α)} {z : Str} (h : (l.map (·.1)).Nodup) : ((delL l z).map (·.1)).Nodup := h.sublist ((List.filter_sublist).map _)
theorem delL_len {α : Type} {l : List (Str × α)} {z : Str} (h : z ∈ l.map (·.1)) : (delL l z).length + 1 ≤ l.length := by
  obtain ⟨q, hq, e⟩ := List.mem_map.mp h
  unfold delL
  exact List.length_filter_lt_length_iff_exists.mpr ⟨q, hq, by rw [e]; simp⟩
theorem GoodSd.more {h : Int} {ns : List Str} {x : Sd} (g : GoodSd h ns x) : GoodSd (h + 1) ns x := by
  cases x with
  | fin => trivial
  | chance l => exact g
  | hand k l =>
    obtain ⟨a, b, c⟩ := g
    exact ⟨a, by omega, c⟩
theorem GoodT.more {h : Int} {l : List (Str × Sd)} (g : GoodT h l) : GoodT (h + 1) l := ⟨g.nd, g.l1, g.l2, g.nm, fun z x hx => (g.sd z x hx).more⟩
theorem GoodT.put {h : Int} {l : List (Str × Sd)} (g : GoodT h l) {z : Str} {x : Sd} (hz : z ∈ l.map (·.1)) (gx : GoodSd h (l.map (·.1)) x) : GoodT h (putL l z x) := by
  have e := putL_keys x hz
  have len : (putL l z x).length = l.length := by
    have := congrArg List.length e
    rwa [List.length_map, List.length_map] at this
  refine ⟨by rw [e]; exact g.nd, by rw [len]; exact g.l1, by rw [len]; exact g.l2, by rw [e]; exact g.nm, fun y u hu => ?_⟩
  rw [e]
  rw [lookup_putL] at hu
  by_cases q : y = z
  · rw [if_pos q] at hu; cases hu; exact gx
  · rw [if_neg q] at hu; exact g.sd y u hu
/-- a stand of the table changed in its place -/
theorem tab_in {X Y : Hp} {F : Addr} {m : List (Str × Addr)} {l : List (Str × Sd)} {z : Str} {a d : Addr} {x : Sd} (nd : (m.map (·.1)).Nodup) (hk : m.map (·.1) = l.map (·.1)) (at_ : AtM X m l) (sep : SepM X m l) (hza : (z, a) ∈ m) (i : InD X a d)
    (s : L2.Same (wo X d) Y) (hF : Y F = some (.dK (strK V.ref m))) (ha : SdAt Y a x) : DictOf SdAt Y F (putL l z x) := by
  have hz : z ∈ l.map (·.1) := by rw [← hk]; exact List.mem_map_of_mem (f := (·.1)) hza
  refine ⟨m, hF, by rw [putL_keys x hz]; exact hk, fun y b hyb => ?_⟩
  by_cases q : y = z
  · subst q
    have e : b = a := by
      have e1 := lookup_of nd hyb
      rw [lookup_of nd hza] at e1
      exact (Option.some.inj e1).symm
    rw [e]
    exact ⟨x, by rw [lookup_putL, if_pos rfl], ha⟩
  · obtain ⟨u, hu, _⟩ := at_ y b hyb
    exact ⟨u, by rw [lookup_putL, if_neg q]; exact hu, (sep z a d hza i y b u hyb q hu).same s⟩
/-- a stand of the table exchanged -/
theorem tab_put {X Y : Hp} {F c : Addr} {m : List (Str × Addr)} {l : List (Str × Sd)} {z : Str} {x : Sd} (hk : m.map (·.1) = l.map (·.1)) (at_ : AtM X m l) (s : L2.Same X Y) (hF : Y F = some (.dK (strK V.ref (putL m z c)))) (hc : SdAt Y c x) : DictOf SdAt Y F (putL l z x) := by
  refine ⟨_, hF, putL_keys2 hk z x c, fun y b hyb => ?_⟩
  rcases putL_mem hyb with e | ⟨h1, h2⟩
  · injection e with e1 e2
    subst e1 e2
    exact ⟨x, by rw [lookup_putL, if_pos rfl], hc⟩
  · obtain ⟨u, hu, hu2⟩ := at_ y b h1
    exact ⟨u, by rw [lookup_putL, if_neg h2]; exact hu, hu2.same s⟩
theorem x_and2 {c : Prop} [Decidable c] {M E : Prop} (hM : c → E → M) (hE : E) : if decide c = true then M else E := by
  by_cases h : c
  · rw [if_pos (decide_eq_true h)]; exact hM h hE
  · rw [if_neg (by rw [decide_eq_false h]; decide)]; exact hE
theorem x_or2 {c : Prop} [Decidable c] {T M : Prop} (hT : T) (hM : ¬ c → T → M) : if decide c = true then T else M := by
  by_cases h : c
  · rw [if_pos (decide_eq_true h)]; exact hT
  · rw [if_neg (by rw [decide_eq_false h]; decide)]; exact hM h hT
theorem pairs_same {X Y : Hp} {d : Addr} {l : List (Str × (Str × Int))} (s : L2.Same X Y) (h : DictOf PairAt X d l) : DictOf PairAt Y d l := h.imp s fun _ _ h => s _ _ h
theorem pairs_put {X Y : Hp} {d e : Addr} {m : List (Str × Addr)} {l : List (Str × (Str × Int))} {z : Str} {q : Str × Int} (hk : m.map (·.1) = l.map (·.1)) (at_ : ∀ y b, (y, b) ∈ m → ∃ v, l.lookup y = some v ∧ PairAt X b v) (s : ∀ b v, PairAt X b v → PairAt Y b v)
    (hd : Y d = some (.dK (strK V.ref (putL m z e)))) (he : PairAt Y e q) : DictOf PairAt Y d (putL l z q) := by
  refine ⟨_, hd, putL_keys2 hk z q e, fun y b hyb => ?_⟩
  rcases putL_mem hyb with e | ⟨h1, h2⟩
  · injection e with e1 e2
    subst e1 e2
    exact ⟨q, by rw [lookup_putL, if_pos rfl], he⟩
  · obtain ⟨u, hu, hu2⟩ := at_ y b h1
    exact ⟨u, by rw [lookup_putL, if_neg h2]; exact hu, s _ _ hu2⟩
theorem delL_keys {α β : Type} {m : List (Str × α)} {l : List (Str × β)} {z : Str} (hk : m.map (·.1) = l.map (·.1)) : (delL m z).map (·.1) = (delL l z).map (·.1) := by
  have e : ∀ {γ : Type} (r : List (Str × γ)), (delL r z).map (·.1) = (r.map (·.1)).filter fun y => decide (y ≠ z) := fun r => by
    rw [List.filter_map]
    rfl
  rw [e, e, hk]
theorem lookup_delL {α : Type} {l : List (Str × α)} {z y : Str} (h : y ≠ z) : (delL l z).lookup y = l.lookup y := by
  induction l with
  | nil => rfl
  | cons p r ih =>
    obtain ⟨a, b⟩ := p
    unfold delL at ih ⊢
    rw [List.filter_cons]
    by_cases q : a = z
    · rw [if_neg (by simp [q]), ih, List.lookup_cons, q]
      have : (y == z) = false := beq_eq_false_iff_ne.mpr h
      rw [this]
    · rw [if_pos (by simp [q]), List.lookup_cons, List.lookup_cons, ih]
theorem at_del {X : Hp} {m : List (Str × Addr)} {l : List (Str × (Str × Int))} {z : Str} (at_ : ∀ y b, (y, b) ∈ m → ∃ v, l.lookup y = some v ∧ PairAt X b v) : ∀ y b, (y, b) ∈ delL m z → ∃ v, (delL l z).lookup y = some v ∧ PairAt X b v := fun y b h => by
  obtain ⟨h1, h2⟩ := List.mem_filter.mp h
  obtain ⟨v, hv, hv2⟩ := at_ y b h1
  exact ⟨v, by rw [lookup_delL (of_decide_eq_true h2)]; exact hv, hv2⟩
def spOther : Sp := fun vs H Q _ => ∃ (p W D : Addr) (h : Int) (st : Str) (l : List (Str × Sd)) (more : List V), vs = [.ref p, .ref W] ∧ PoolAt H p ∧ H W = some (.lst (.int h :: .str st :: .ref D :: more)) ∧ W ≠ p ∧ DictOf SdAt (wo H p) D l ∧ GoodT h l ∧ 1 ≤ h ∧ h ≤ 4 ∧ st ∈ l.map (·.1) ∧
  ∀ H' R F h' st' l', But p H H' → PoolAt H' p → H R = none → H' R = some (.lst [.int h', .str st', .ref F]) → DictOf SdAt (wo H' p) F l' → GoodT h' l' → 1 ≤ h' → h' ≤ 4 → st' ∈ l'.map (·.1) → Q (.ref R) H'
section
variable {P : Program} {w : World} {K : PySem.W.Frag} {mg : Str → Option Value} {base : Heap} {C : Addr}
theorem ok_l_other {f : Addr} {fd : FuncData} (F : Fun K "_law_other" "_law_other" s_l_other f fd) (Z_list : mg "list" = none) (Z_len : mg "len" = none) (C_draw : Cal P w K mg base 1 "_law_draw" ["_law_pool_here", "_law_many"] spDraw) (C_word : Cal P w K mg base 2 "_law_word" ["_law_pool_here", "_law_longest"] spWord)
    (C_l_copy : Cal P w K mg base 1 "_law_copy" ["_law_stands_here"] spCopyL) (C_l_as_draws : Cal P w K mg base 1 "_law_as_draws" ["_law_steps_here"] spAsDraws) : FnOk P w K mg base CX0 3 f fd ["_law_pool_here", "_law_world_here"] spOther := by
  refine F.ok sc_l_other (fun vs H Q E h => ?_) (fun cdv A outer s H vs Q E hr h => ?_)
  · obtain ⟨_, _, _, _, _, _, _, rfl, _⟩ := h
    rfl
  · obtain ⟨p, W, D, h, st, l, more, rfl, hp, hW, nWp, hT, g, h1, h4, hst, k⟩ := h
    have hu := hu_of hr
    have gl := g.l2
    have gl1 := g.l1
    refine ⟨_, (pss_cons (ps_set (i := 2) sc_l_other.nd rfl (Or.inl rfl) (pe_cal C_draw (hr.mono (by decide)) (by rfl) (pa_cons (pv 0) (pa_cons pe_int pa_nil))))
      (pss_cons (ps_set (i := 3) sc_l_other.nd rfl (Or.inl rfl) (pe_cal C_l_copy (hr.mono (by decide)) (by rfl) (pa_cons (pe_ix ix_list (pv 1) pe_int (fun _ _ => rfl)) pa_nil)))
      (pss_cons (ps_set (i := 4) sc_l_other.nd rfl (Or.inl rfl) (pe_callTy (call_list_dK rfl) (by rfl) Z_list (by decide +kernel) (pa_cons (pv 3) pa_nil)))
      (pss_cons (ps_set (i := 5) sc_l_other.nd rfl (Or.inl rfl) (pe_ix ix_list (pv 4) (pe_cal C_draw (hr.mono (by decide)) (by rfl) (pa_cons (pv 0) (pa_cons (pe_callB call_lenA (by rfl) Z_len (by decide +kernel) (pa_cons (pv 4) pa_nil)) pa_nil))) (fun _ _ => rfl)))
      (pss_cons (ps_if (PW.pt (pw_and (pt_cmpR op_eq (pv 2) pe_int (nomark _)) (pw_and1 (pt_cmpR op_lt (pe_ix ix_list (pv 1) pe_int (fun _ _ => rfl)) pe_int (nomark _)))))
      (pss_one (ps_ret (pe_lst (pa_cons (pe_op op_add (pe_ix ix_list (pv 1) pe_int (fun _ _ => rfl)) pe_int) (pa_cons (pe_ix ix_list (pv 1) pe_int (fun _ _ => rfl)) (pa_cons (pv 3) pa_nil))))))
      pss_nil)
      (pss_cons (ps_if (pt_cmpR op_eq (pv 2) pe_int (nomark _))
      (pss_one (ps_ret (pe_lst (pa_cons (pe_ix ix_list (pv 1) pe_int (fun _ _ => rfl)) (pa_cons (pv 5) (pa_cons (pv 3) pa_nil))))))
      pss_nil)
      (pss_cons (ps_set (i := 6) sc_l_other.nd rfl (Or.inl rfl) (pe_dget hu (pv 3) (pv 5) (fun _ _ => rfl)))
      (pss_cons (ps_if (PW.pt (pw_or (pt_cmpR op_eq (pv 2) pe_int (nomark _)) (pw_or1 (pt_cmpR op_eq (pe_callB call_lenA (by rfl) Z_len (by decide +kernel) (pa_cons (pv 6) pa_nil)) pe_int (nomark _)))))
      (pss_cons (ps_dput hu (pv 3) (pv 5) (pe_tup (pa_cons pe_str pa_nil)) rfl)
      (pss_one (ps_ret (pe_lst (pa_cons (pe_ix ix_list (pv 1) pe_int (fun _ _ => rfl)) (pa_cons (pe_ix ix_list (pv 1) pe_int (fun _ _ => rfl)) (pa_cons (pv 3) pa_nil)))))))
      pss_nil)
      (pss_cons (ps_set (i := 7) sc_l_other.nd rfl (Or.inl rfl) (pe_ix ix_tup (pv 6) (pe_op op_sub (pe_callB call_lenA (by rfl) Z_len (by decide +kernel) (pa_cons (pv 6) pa_nil)) pe_int) (fun _ _ => rfl)))
      (pss_cons (ps_set (i := 8) sc_l_other.nd rfl (Or.inl rfl) (pe_ix ix_list (pe_callTy (call_list_dK rfl) (by rfl) Z_list (by decide +kernel) (pa_cons (pv 7) pa_nil)) (pe_cal C_draw (hr.mono (by decide)) (by rfl) (pa_cons (pv 0) (pa_cons (pe_callB call_lenDA (by rfl) Z_len (by decide +kernel) (pa_cons (pv 7) pa_nil)) pa_nil))) (fun _ _ => rfl)))
      (pss_cons (ps_set (i := 9) sc_l_other.nd rfl (Or.inl rfl) (pe_ix ix_list (pv 4) (pe_cal C_draw (hr.mono (by decide)) (by rfl) (pa_cons (pv 0) (pa_cons (pe_callB call_lenA (by rfl) Z_len (by decide +kernel) (pa_cons (pv 4) pa_nil)) pa_nil))) (fun _ _ => rfl)))
      (pss_cons (ps_if (pt_cmpR op_eq (pv 2) pe_int (nomark _))
      (pss_one (ps_dput hu (pv 7) (pe_cal C_word (hr.mono (by decide)) (by rfl) (pa_cons (pv 0) (pa_cons pe_int pa_nil))) (pe_dpop1 (pv 7) (by exact (pv 8)) ⟨by rfl, by first | rfl | decide +kernel, by rfl, by rfl⟩) rfl))
      (pss_one (ps_if (PW.pt (pw_and (pt_cmpR op_eq (pe_callB call_lenA (by rfl) Z_len (by decide +kernel) (pa_cons (pv 6) pa_nil)) pe_int (nomark _)) (pw_and1 (pt_cmpR op_lt (pv 2) pe_int (nomark _)))))
      (pss_one (ps_dput hu (pv 3) (pv 5) (pe_tup (pa_cons pe_str (pa_cons (pe_op op_mod (pe_op op_add (pe_ix ix_tup (pv 6) pe_int (fun _ _ => rfl)) pe_int) (pe_ix ix_list (pv 1) pe_int (fun _ _ => rfl))) (pa_cons (pv 7) pa_nil)))) rfl))
      (pss_one (ps_if (PW.pt (pw_and (pt_cmpR op_eq (pe_callB call_lenA (by rfl) Z_len (by decide +kernel) (pa_cons (pv 6) pa_nil)) pe_int (nomark _)) (pw_and1 (pt_cmpR op_eq (pv 2) pe_int (nomark _)))))
      (pss_one (ps_dput hu (pv 3) (pv 5) (pe_tup (pa_cons pe_str (pa_cons (pe_cal C_l_as_draws (hr.mono (by decide)) (by rfl) (pa_cons (pv 7) pa_nil)) pa_nil))) rfl))
      (pss_one (ps_if (pt_cmpR op_eq (pe_callB call_lenA (by rfl) Z_len (by decide +kernel) (pa_cons (pv 6) pa_nil)) pe_int (nomark _))
      (pss_one (ps_dput hu (pv 7) (pv 8) (pv 9) rfl))
      (pss_one (ps_if (pt_cmpR op_lt (pv 2) pe_int (nomark _))
      (pss_one (ps_dput hu (pv 7) (pv 8) (pe_tup (pa_cons (pv 9) (pa_cons (pe_ix ix_tup (pe_dget hu (pv 7) (pv 8) (fun _ _ => rfl)) pe_int (fun _ _ => rfl)) pa_nil))) rfl))
      (pss_one (ps_dput hu (pv 7) (pv 8) (pe_tup (pa_cons (pe_ix ix_tup (pe_dget hu (pv 7) (pv 8) (fun _ _ => rfl)) pe_int (fun _ _ => rfl)) (pa_cons (pe_op op_add pe_int (pe_cal C_draw (hr.mono (by decide)) (by rfl) (pa_cons (pv 0) (pa_cons pe_int pa_nil)))) pa_nil))) rfl)))))))))))
      (pss_one (ps_ret (pe_lst (pa_cons (pe_ix ix_list (pv 1) pe_int (fun _ _ => rfl)) (pa_cons (pe_ix ix_list (pv 1) pe_int (fun _ _ => rfl)) (pa_cons (pv 3) pa_nil)))))))))))))))))), ?_⟩
    walk_at "go"
    refine ⟨p, 9, rfl, hp, by decide, by decide, fun H1 kd b1 p1 kd0 kd1 => ?_⟩
    have hW1 := b1 _ _ hW nWp
    walk_at "go"
    refine x_ixl 2 (SqL.of hW1) rfl rfl ?_
    walk_at "go"
    refine ⟨D, l, h, l.map (·.1), rfl, hT.same (fun b o e => b1 b o (wo_some e).1 (wo_some e).2), g.nd, by omega, g.sd, fun H2 F0 s2 nF hS => ?_⟩
    obtain ⟨m, m1, m2, m3, m4⟩ := hS
    have hF2 : H2 F0 = some (.dK (strK V.ref m)) := nd_same _ _ m1
    have nm : (m.map (·.1)).Nodup := by rw [m2]; exact g.nd
    have lm : m.length = l.length := by
      have := congrArg List.length m2
      rwa [List.length_map, List.length_map] at this
    have hX : ∀ b o, nd H1 H2 b = some o → (∀ xs, o ≠ .tup xs) → H1 b = none := fun b o e n => by
      rcases (nd_some e).1 with h | ⟨xs, h⟩
      · exact h
      · have e2 := s2 _ _ h
        rw [(nd_some e).2] at e2
        cases e2
        exact absurd rfl (n xs)
    have sX2 : L2.Same (nd H1 H2) H2 := nd_same
    have Xp : nd H1 H2 p = none := by
      obtain ⟨ns, hp1, _⟩ := p1
      cases e : nd H1 H2 p with
      | none => rfl
      | some o =>
        rcases (nd_some e).1 with h | ⟨xs, h⟩ <;> rw [hp1] at h <;> cases h
    generalize nd H1 H2 = X at m1 m3 m4 hX sX2 Xp
    have nFp : F0 ≠ p := (ne_of_none m1 Xp)
    walk_at "go"
    refine ⟨F0, _, rfl, hF2, fun N nN => ?_⟩
    have ekk : (strK V.ref m).map (fun kv => kV kv.1) = strsV (m.map (·.1)) := by
      rw [List.map_map]
      show _ = List.map V.str (List.map _ m)
      rw [List.map_map]
      rfl
    rw [ekk, m2]
    have s3 : L2.Same H2 (upd H2 N (.lst (strsV (l.map (·.1))))) := same_new nN
    have hN3 : (upd H2 N (.lst (strsV (l.map (·.1))))) N = some (.lst (strsV (l.map (·.1)))) := upd_same
    have p2 : PoolAt H2 p := by
      obtain ⟨ns, e, o⟩ := p1
      exact ⟨ns, s2 _ _ e, o⟩
    have nNp : N ≠ p := fun e => by
      obtain ⟨ns, e2, o⟩ := p2
      rw [e, e2] at nN
      cases nN
    have p3 : PoolAt (upd H2 N (.lst (strsV (l.map (·.1))))) p := by
      obtain ⟨ns, e, o⟩ := p2
      exact ⟨ns, s3 _ _ e, o⟩
    generalize upd H2 N (.lst (strsV (l.map (·.1)))) = H3 at s3 hN3 p3 ⊢
    walk_at "go"
    refine ⟨p, _, rfl, p3, by rw [List.length_map, List.length_map]; omega, by rw [List.length_map, List.length_map]; omega, fun H4 t b4 p4 t0 t1 => ?_⟩
    obtain ⟨z, hz, hz2⟩ := pickS (l.map (·.1)) (j := t) t0 (by rw [List.length_map] at t1; exact t1)
    have hN4 := b4 N _ hN3 nNp
    walk_at "go"
    refine x_ixl t.toNat (SqL.of hN4) (by omega) hz ?_
    have b14 : But p H1 H4 := ((But.of_same s2).trans (But.of_same s3)).trans b4
    have b04 : But p H H4 := b1.trans b14
    have hW4 := b04 W _ hW nWp
    have hF4 : H4 F0 = some (.dK (strK V.ref m)) := b4 _ _ (s3 _ _ hF2) nFp
    have sX4 : L2.Same X (wo H4 p) := fun b o e => by
      have nb : b ≠ p := ne_of_none e Xp
      rw [wo_ne nb]
      exact b4 _ _ (s3 _ _ (sX2 _ _ e)) nb
    have hz2 := List.mem_of_getElem? hz2
    obtain ⟨a, ha⟩ := lookup_isSome (show z ∈ m.map (·.1) by rw [m2]; exact hz2)
    have hza := lookup_mem ha
    obtain ⟨x, hx, hxa⟩ := m3 z a hza
    have gx := g.sd z x hx
    have fin : ∀ H9 R (h' : Int) (st' : Str) l', (∀ b o, H b = some o → b ≠ p → H9 b = some o) → PoolAt H9 p → H9 R = none → DictOf SdAt (wo H9 p) F0 l' → GoodT h' l' → 1 ≤ h' → h' ≤ 4 → st' ∈ l'.map (·.1) → Q (.ref R) (upd H9 R (.lst [.int h', .str st', .ref F0])) := fun H9 R h' st' l' b9 p9 nR d9 g9 h1' h4' hst' => by
      have nRp : R ≠ p := fun e => by
        obtain ⟨ns, e2, _⟩ := p9
        rw [e, e2] at nR
        cases nR
      refine k _ R F0 h' st' l' (fun b o e n => ?_) ?_ ?_ upd_same (d9.same fun b o e => ?_) g9 h1' h4' hst'
      · rw [upd_ne (ne_of_none (b9 b o e n) nR)]; exact b9 b o e n
      · obtain ⟨ns, e2, o⟩ := p9
        exact ⟨ns, by rw [upd_ne nRp.symm]; exact e2, o⟩
      · cases e : H R with
        | none => rfl
        | some o => have := b9 R o e nRp; rw [nR] at this; cases this
      · obtain ⟨e1, n1⟩ := wo_some e
        rw [wo_ne n1, upd_ne (ne_of_none e1 nR)]
        exact e1
    have m3' : AtM (wo X F0) m l := fun y b hyb => by
      obtain ⟨u, hu, hu2⟩ := m3 y b hyb
      exact ⟨u, hu, sd_woT m1 (fun y c hyc => (m3 y c hyc).imp fun v hv => hv.2) hu2 (g.sd y u hu)⟩
    have hd4 : DictOf SdAt (wo H4 p) F0 l := ⟨m, by rw [wo_ne nFp]; exact hF4, m2, fun y b hyb => m3.same sX4 y b hyb⟩
    have zl : ∀ x', z ∈ (putL l z x').map (·.1) := fun x' => by rw [putL_keys x' hz2]; exact hz2
    have stl : ∀ x', st ∈ (putL l z x').map (·.1) := fun x' => by rw [putL_keys x' hz2]; exact hst
    -- a stand of the table exchanged, seen from a heap with all that was
    have exch : ∀ (G : Hp) (c : Addr) (x' : Sd), L2.Same X (wo G p) → G c = none → GoodSd h (l.map (·.1)) x' → (∀ b o, H b = some o → b ≠ p → G b = some o) → PoolAt G p → ∀ o, SdAt (wo (upd G c o) p) c x' → (∀ xs, o = .tup xs → True) →
        H F0 = none ∧ c ≠ p ∧ c ≠ F0 ∧ (∀ b o', H b = some o' → b ≠ p → (upd (upd G c o) F0 (.dK (strK V.ref (putL m z c)))) b = some o') ∧ PoolAt (upd (upd G c o) F0 (.dK (strK V.ref (putL m z c)))) p ∧ (SdAt (wo (wo (upd G c o) p) F0) c x' → DictOf SdAt (wo (upd (upd G c o) F0 (.dK (strK V.ref (putL m z c)))) p) F0 (putL l z x')) := fun G c x' sG nc gx' bG pG o hc _ => by
      have hFG : G F0 = some (.dK (strK V.ref m)) := (wo_some (sG _ _ m1)).1
      have nHF : H F0 = none := by
        cases e : H F0 with
        | none => rfl
        | some o =>
          have e1 := b1 _ _ e nFp
          rw [hX F0 _ m1 (fun xs z => by cases z)] at e1
          cases e1
      have ncp : c ≠ p := fun e => by
        obtain ⟨ns, e2, _⟩ := pG
        rw [e, e2] at nc
        cases nc
      have ncF : c ≠ F0 := fun e => by rw [e, hFG] at nc; cases nc
      refine ⟨nHF, ncp, ncF, fun b o' e n => ?_, ?_, fun hc2 => ?_⟩
      · rw [upd_ne (ne_of_none e nHF), upd_ne (ne_of_none (bG b o' e n) nc)]
        exact bG b o' e n
      · obtain ⟨ns, e2, o⟩ := pG
        exact ⟨ns, by rw [upd_ne nFp.symm, upd_ne ncp.symm]; exact e2, o⟩
      · refine tab_put m2 m3' (fun b o' e => ?_) (by rw [wo_ne nFp]; exact upd_same) (hc2.same fun b o' e => ?_)
        · obtain ⟨e1, n1⟩ := wo_some e
          obtain ⟨e2, n2⟩ := wo_some (sG _ _ e1)
          rw [wo_ne n2, upd_ne n1, upd_ne (ne_of_none e2 nc)]
          exact e2
        · obtain ⟨e1, n1⟩ := wo_some e
          obtain ⟨e2, n2⟩ := wo_some e1
          rw [wo_ne n2, upd_ne n1]
          exact e2
    walk_at "go"
    refine x_and2 (fun hc e => ?_) ?_
    · walk_at "go"
      refine x_ixl 0 (SqL.of hW4) rfl rfl ?_
      walk_at "go"
      refine x_dec (fun hd => ?_) (fun hd => ?_)
      · walk_at "go"
        refine x_ixl 0 (SqL.of hW4) rfl rfl ?_
        walk_at "go"
        refine x_ixl 1 (SqL.of hW4) rfl rfl ?_
        walk_at "go"
        refine ⟨sz_le (by simp), fun R nR => ?_⟩
        walk_at "go"
        exact fin H4 R (h + 1) st l b04 p4 nR hd4 g.more (by omega) (by omega) hst
      · exact e
    walk_at "go"
    refine x_dec (fun hc => ?_) (fun hc => ?_)
    · walk_at "go"
      refine x_ixl 0 (SqL.of hW4) rfl rfl ?_
      walk_at "go"
      refine ⟨sz_le (by simp), fun R nR => ?_⟩
      walk_at "go"
      exact fin H4 R h z l b04 p4 nR hd4 g h1 h4 hz2
    · walk_at "go"
      refine x_getL (l := m) (f := V.ref) (.inl hF4) ha ?_
      walk_at "go"
      refine x_or2 ?_ (fun hc2 hT => ?_)
      · walk_at "go"
        refine ⟨sz_le (by simp), fun c hc => ?_⟩
        obtain ⟨q1, q2, q3, q4, q5, q6⟩ := exch H4 c .fin sX4 hc trivial b04 p4 (.tup [.str "end"]) (by
          have n : c ≠ p := fun e => by
            obtain ⟨ns, e2, _⟩ := p4
            rw [e, e2] at hc
            cases hc
          show (wo _ p) c = _
          rw [wo_ne n]
          exact upd_same) (fun _ _ => trivial)
        walk_at "go"
        refine x_putL (l := m) (x := c) (by rw [upd_ne q3.symm]; exact hF4) (by omega) rfl ?_
        have hW9 := q4 W _ hW nWp
        have d9 := q6 (by
          show (wo (wo _ p) F0) c = _
          rw [wo_ne q3, wo_ne q2]
          exact upd_same)
        generalize upd (upd H4 c (.tup [.str "end"])) F0 (.dK (strK V.ref (putL m z c))) = H9 at q4 q5 hW9 d9 ⊢
        walk_at "go"
        refine x_ixl 0 (SqL.of hW9) rfl rfl ?_
        walk_at "go"
        refine x_ixl 1 (SqL.of hW9) rfl rfl ?_
        walk_at "go"
        refine ⟨sz_le (by simp), fun R nR => ?_⟩
        walk_at "go"
        exact fin H9 R h st _ q4 q5 nR d9 (g.put hz2 trivial) h1 h4 (stl _)
      · walk_at "go"
        -- BELOW: printed by gen09e.py
        have hxa2 : SdAt (wo X F0) a x := by
          obtain ⟨u, hu, hu2⟩ := m3' z a hza
          rw [hx] at hu
          cases hu
          exact hu2
        have at4 : ∀ b o, X b = some o → H4 b = some o ∧ b ≠ p := fun b o e => by
          obtain ⟨e1, n1⟩ := wo_some (sX4 b o e)
          exact ⟨e1, n1⟩
        cases x with
        | fin =>
          have e4 := (at4 _ _ (wo_some (show (wo X F0) a = some (.tup [.str "end"]) from hxa2)).1).1
          refine x_lenT (SqT.of e4) ?_
          walk_at "go"
          refine x_yes rfl ?_
          exact hT

        | hand k2 l2 =>
          obtain ⟨d2, ea, ed⟩ := hxa2
          obtain ⟨g1, g2, g3, g4, g5, g6⟩ := gx
          have xa := (wo_some ea).1
          obtain ⟨xd, nd2F⟩ := wo_some ed
          have nFd := nd2F.symm
          have xi : InD X a d2 := ⟨[.str "hand", .int k2], xa⟩
          have nad : a ≠ d2 := fun e => by rw [e, xd] at xa; cases xa
          have h4a := (at4 _ _ xa).1
          obtain ⟨h4d, nd2p⟩ := at4 _ _ xd
          refine x_lenT (SqT.of h4a) ?_
          walk_at "go"
          refine x_no (by simp) ?_
          walk_at "go"
          refine x_lenT (SqT.of h4a) ?_
          walk_at "go"
          refine x_ixt 2 (SqT.of h4a) rfl rfl ?_
          walk_at "go"
          refine ⟨d2, _, rfl, h4d, fun S nS => ?_⟩
          have ekk2 : (strK V.str l2).map (fun kv => kV kv.1) = strsV (l2.map (·.1)) := by
            rw [List.map_map]
            show _ = List.map V.str (List.map _ l2)
            rw [List.map_map]
            rfl
          rw [ekk2]
          have s5 : L2.Same H4 (upd H4 S (.lst (strsV (l2.map (·.1))))) := same_new nS
          have hS5 : (upd H4 S (.lst (strsV (l2.map (·.1))))) S = some (.lst (strsV (l2.map (·.1)))) := upd_same
          have nSp : S ≠ p := fun e => by
            obtain ⟨ns, e2, _⟩ := p4
            rw [e, e2] at nS
            cases nS
          have p5 : PoolAt (upd H4 S (.lst (strsV (l2.map (·.1))))) p := by
            obtain ⟨ns, e, o⟩ := p4
            exact ⟨ns, s5 _ _ e, o⟩
          generalize upd H4 S (.lst (strsV (l2.map (·.1)))) = H5 at s5 hS5 p5 ⊢
          walk_at "go"
          refine x_lenD (.inl (s5 _ _ h4d)) ?_
          refine ⟨p, _, rfl, p5, by rw [List.length_map]; omega, by rw [List.length_map]; omega, fun H6 t2 b6 p6 t20 t21 => ?_⟩
          obtain ⟨stp, hstp, hstp2⟩ := pickS (l2.map (·.1)) (j := t2) t20 (by rw [List.length_map] at t21 ⊢; exact t21)
          have hstp3 := List.mem_of_getElem? hstp2
          walk_at "go"
          refine x_ixl t2.toNat (SqL.of (b6 S _ hS5 nSp)) (by omega) hstp ?_
          walk_at "go"
          have b46 : But p H4 H6 := (But.of_same s5).trans b6
          have hN6 := b46 N _ hN4 nNp
          refine x_lenL (SqL.of hN6) ?_
          refine ⟨p, _, rfl, p6, by rw [List.length_map, List.length_map]; omega, by rw [List.length_map, List.length_map]; omega, fun H7 t3 b7 p7 t30 t31 => ?_⟩
          obtain ⟨to, hto, hto2⟩ := pickS (l.map (·.1)) (j := t3) t30 (by rw [List.length_map] at t31; exact t31)
          have hto3 := List.mem_of_getElem? hto2
          have b47 : But p H4 H7 := b46.trans b7
          have hN7 := b47 N _ hN4 nNp
          walk_at "go"
          refine x_ixl t3.toNat (SqL.of hN7) (by omega) hto ?_
          walk_at "go"
          have b07 : But p H H7 := b04.trans b47
          have hW7 := b07 W _ hW nWp
          have sX7 : L2.Same X (wo H7 p) := fun b o e => by
            obtain ⟨e1, n1⟩ := wo_some (sX4 b o e)
            rw [wo_ne n1]
            exact b47 _ _ e1 n1
          have at7 : ∀ b o, X b = some o → H7 b = some o ∧ b ≠ p := fun b o e => by
            obtain ⟨e1, n1⟩ := wo_some (sX7 b o e)
            exact ⟨e1, n1⟩
          have h7a := (at7 _ _ xa).1
          have h7d := (at7 _ _ xd).1
          have h7F := (at7 _ _ m1).1
          -- the dict of the steps changed at a later heap
          have inner : ∀ (G : Hp) (c : HO) (x' : Sd), But p H7 G → G d2 = some c → PoolAt G p → ∀ o, (∀ Y, L2.Same (wo X d2) Y → Y d2 = some o → (∀ b o', G b = some o' → b ≠ p → b ≠ d2 → Y b = some o') → SdAt Y a x') →
              (∀ b o', H b = some o' → b ≠ p → (upd G d2 o) b = some o') ∧ PoolAt (upd G d2 o) p ∧ DictOf SdAt (wo (upd G d2 o) p) F0 (putL l z x') := fun G c x' bG hG pG o hx' => by
            have nHd : H d2 = none := by
              cases e : H d2 with
              | none => rfl
              | some o =>
                have e1 := b1 _ _ e nd2p
                rw [hX d2 _ xd (fun xs z => by cases z)] at e1
                cases e1
            have sY : L2.Same (wo X d2) (wo (upd G d2 o) p) := fun b o' e => by
              obtain ⟨e1, n1⟩ := wo_some e
              obtain ⟨e2, n2⟩ := at7 _ _ e1
              rw [wo_ne n2, upd_ne n1]
              exact bG _ _ e2 n2
            refine ⟨fun b o' e n => ?_, ?_, ?_⟩
            · rw [upd_ne (ne_of_none e nHd)]
              exact bG _ _ (b07 _ _ e n) n
            · obtain ⟨ns, e2, q⟩ := pG
              exact ⟨ns, by rw [upd_ne nd2p.symm]; exact e2, q⟩
            · refine tab_in nm m2 m3 m4 hza xi sY ?_ (hx' _ sY ?_ fun b o' e n1 n2 => ?_)
              · exact sY _ _ (by rw [wo_ne nFd]; exact m1)
              · rw [wo_ne nd2p]; exact upd_same
              · rw [wo_ne n1, upd_ne n2]; exact e
          have out : ∀ (G : Hp) (R : Addr) (x' : Sd), (∀ b o, H b = some o → b ≠ p → G b = some o) → PoolAt G p → G R = none → DictOf SdAt (wo G p) F0 (putL l z x') → GoodSd h (l.map (·.1)) x' → Q (.ref R) (upd G R (.lst [.int h, .str st, .ref F0])) := fun G R x' bG pG nR dG gx' => fin G R h st _ bG pG nR dG (g.put hz2 gx') h1 h4 (stl _)

          refine x_dec (fun hk3 => ?_) (fun hk3 => ?_)
          · walk_at "go"
            refine ⟨.ref d2, rfl, d2, rfl, .inl ⟨_, .inl h7d⟩, .str stp, rfl, ?_⟩
            obtain ⟨v, hv⟩ := lookup_isSome hstp3
            refine ⟨_, Sum.inr stp, V.str v, h7d, rfl, by rw [strK_look, hv]; rfl, ?_⟩
            rw [strK_del]
            walk_at "go"
            have p8 : PoolAt (upd H7 d2 (.dK (strK V.str (delL l2 stp)))) p := by
              obtain ⟨ns, e, o⟩ := p7
              exact ⟨ns, by rw [upd_ne nd2p.symm]; exact e, o⟩
            refine ⟨p, 4, rfl, p8, by decide, by decide, fun H9 ww b9 p9 nww => ?_⟩
            have h9d := b9 d2 _ upd_same nd2p
            have ld := delL_len hstp3
            refine x_putL (l := delL l2 stp) (x := v) h9d (by omega) rfl ?_
            have b79 : But p (upd H7 d2 (.dK (strK V.str (delL l2 stp)))) H9 := b9
            have nHd : ∀ b o', H b = some o' → b ≠ p → b ≠ d2 := fun b o' e n q => by
              rw [q] at e
              have e1 := b1 _ _ e nd2p
              rw [hX d2 _ xd (fun xs z => by cases z)] at e1
              cases e1
            have i1 : ∀ b o', H b = some o' → b ≠ p → (upd H9 d2 (.dK (strK V.str (putL (delL l2 stp) ww v)))) b = some o' := fun b o' e n => by
              have n2 := nHd b o' e n
              rw [upd_ne n2]
              exact b9 b o' (by rw [upd_ne n2]; exact b07 _ _ e n) n
            have i2 : PoolAt (upd H9 d2 (.dK (strK V.str (putL (delL l2 stp) ww v)))) p := by
              obtain ⟨ns, e, o⟩ := p9
              exact ⟨ns, by rw [upd_ne nd2p.symm]; exact e, o⟩
            have sY : L2.Same (wo X d2) (wo (upd H9 d2 (.dK (strK V.str (putL (delL l2 stp) ww v)))) p) := fun b o' e => by
              obtain ⟨e1, n1⟩ := wo_some e
              obtain ⟨e2, n2⟩ := at7 _ _ e1
              rw [wo_ne n2, upd_ne n1]
              exact b9 b o' (by rw [upd_ne n1]; exact e2) n2
            have i3 : DictOf SdAt (wo (upd H9 d2 (.dK (strK V.str (putL (delL l2 stp) ww v)))) p) F0 (putL l z (.hand k2 (putL (delL l2 stp) ww v))) :=
              tab_in nm m2 m3 m4 hza ⟨[.str "hand", .int k2], xa⟩ sY (sY _ _ (by rw [wo_ne nFd]; exact m1)) ⟨d2, sY _ _ (by rw [wo_ne nad]; exact xa), by rw [wo_ne nd2p]; exact upd_same⟩
            have hW9 := i1 W _ hW nWp
            generalize upd H9 d2 (.dK (strK V.str (putL (delL l2 stp) ww v))) = H10 at i1 i2 i3 hW9 ⊢
            walk_at "go"
            refine x_ixl 0 (SqL.of hW9) rfl rfl ?_
            walk_at "go"
            refine x_ixl 1 (SqL.of hW9) rfl rfl ?_
            walk_at "go"
            refine ⟨sz_le (by simp), fun R nR => ?_⟩
            walk_at "go"
            exact out H10 R (.hand k2 (putL (delL l2 stp) ww v)) i1 i2 nR i3 ⟨g1, g2, putL_nd _ (delL_nd g3), putL_pos _ _ _, Nat.le_trans (putL_len _ _ _) (by omega), fun q hq => by
              rcases putL_mem hq with e | ⟨e, _⟩
              · rw [e]; exact ⟨nww, (g6 _ (lookup_mem hv)).2⟩
              · exact g6 q (List.mem_filter.mp e).1⟩
          · walk_at "go"
            refine x_lenT (SqT.of h7a) ?_
            walk_at "go"
            refine x_yes rfl ?_
            walk_at "go"
            refine x_dec (fun hk6 => ?_) (fun hk6 => ?_)
            · walk_at "go"
              refine x_ixt 1 (SqT.of h7a) rfl rfl ?_
              walk_at "go"
              refine x_ixl 0 (SqL.of hW7) rfl rfl ?_
              walk_at "go"
              have GX : GoodSd h (l.map (·.1)) (.hand ((k2 + 1) % h) l2) := ⟨Int.emod_nonneg _ (by omega), Int.emod_lt_of_pos _ (by omega), g3, g4, g5, g6⟩
              refine ⟨sz_le (by simp), fun c hc => ?_⟩
              obtain ⟨q1, q2, q3, q4, q5, q6⟩ := exch H7 c (.hand ((k2 + 1) % h) l2) sX7 hc GX b07 p7 (.tup [.str "hand", .int ((k2 + 1) % h), .ref d2]) (by
                have n : c ≠ p := fun e => by
                  obtain ⟨ns, e2, _⟩ := p7
                  rw [e, e2] at hc
                  cases hc
                have ncd : d2 ≠ c := fun e => by rw [← e, h7d] at hc; cases hc
                exact ⟨d2, by rw [wo_ne n]; exact upd_same, by rw [wo_ne nd2p, upd_ne ncd]; exact h7d⟩) (fun _ _ => trivial)
              have ncd : d2 ≠ c := fun e => by rw [← e, h7d] at hc; cases hc
              walk_at "go"
              refine x_putL (l := m) (x := c) (by rw [upd_ne q3.symm]; exact h7F) (by omega) rfl ?_
              have hW9 := q4 W _ hW nWp
              have d9 := q6 ⟨d2, by rw [wo_ne q3, wo_ne q2]; exact upd_same, by rw [wo_ne nd2F, wo_ne nd2p, upd_ne ncd]; exact h7d⟩
              generalize upd (upd H7 c (.tup [.str "hand", .int ((k2 + 1) % h), .ref d2])) F0 (.dK (strK V.ref (putL m z c))) = H9 at q4 q5 hW9 d9 ⊢
              walk_at "go"
              refine x_ixl 0 (SqL.of hW9) rfl rfl ?_
              walk_at "go"
              refine x_ixl 1 (SqL.of hW9) rfl rfl ?_
              walk_at "go"
              refine ⟨sz_le (by simp), fun R nR => ?_⟩
              walk_at "go"
              exact out H9 R _ q4 q5 nR d9 GX
            · walk_at "go"
              refine x_lenT (SqT.of h7a) ?_
              walk_at "go"
              refine x_yes rfl ?_
              walk_at "go"
              refine x_dec (fun hk7 => ?_) (fun hk7 => ?_)
              · walk_at "go"
                refine ⟨d2, l2, rfl, h7d, g3, by omega, fun H8 E8 s8 nE dE => ?_⟩
                have b78 : But p H7 H8 := But.of_same s8
                have p8 : PoolAt H8 p := by
                  obtain ⟨ns, e, o⟩ := p7
                  exact ⟨ns, s8 _ _ e, o⟩
                have b08 : But p H H8 := b07.trans b78
                have sX8 : L2.Same X (wo H8 p) := fun b o e => by
                  obtain ⟨e1, n1⟩ := at7 _ _ e
                  rw [wo_ne n1]
                  exact s8 _ _ e1
                have np : (nd H7 H8) p = none := by
                  obtain ⟨ns, e, _⟩ := p7
                  cases e2 : (nd H7 H8) p with
                  | none => rfl
                  | some o => rcases (nd_some e2).1 with h | ⟨xs, h⟩ <;> rw [e] at h <;> cases h
                have nF : (nd H7 H8) F0 = none := by
                  cases e2 : (nd H7 H8) F0 with
                  | none => rfl
                  | some o => rcases (nd_some e2).1 with h | ⟨xs, h⟩ <;> rw [h7F] at h <;> cases h
                have sN : L2.Same (nd H7 H8) H8 := nd_same
                have h8F := s8 _ _ h7F
                generalize nd H7 H8 = Z at dE np nF sN
                walk_at "go"
                refine ⟨sz_le (by simp), fun c hc => ?_⟩
                have eE : ∃ o, H8 E8 = some o := by
                  obtain ⟨m', e, _⟩ := id dE.ex
                  exact ⟨_, sN _ _ e⟩
                have nEc : E8 ≠ c := fun e => by
                  obtain ⟨o, e2⟩ := eE
                  rw [e, hc] at e2
                  cases e2
                have GX : GoodSd h (l.map (·.1)) (.chance (l2.map fun q => (q.1, (q.2, (1 : Int))))) := ⟨by
                    rw [List.map_map]
                    exact g3, by rw [List.length_map]; exact g4, by rw [List.length_map]; exact g5, fun q hq => by
                    obtain ⟨r, hr, e⟩ := List.mem_map.mp hq
                    rw [← e]
                    exact ⟨(g6 r hr).1, (g6 r hr).2, by show (1 : Int) ≤ 1; decide, by show (1 : Int) ≤ 9; decide⟩⟩
                have nE2 : ∀ {b : Addr} {o : HO}, Z b = some o → b ≠ p ∧ b ≠ F0 ∧ b ≠ c := fun {b o} e => ⟨(fun q => by rw [q, np] at e; cases e), (fun q => by rw [q, nF] at e; cases e), (fun q => by have := sN _ _ e; rw [q, hc] at this; cases this)⟩
                have sZ1 : L2.Same Z (wo (upd H8 c (.tup [.str "chance", .ref E8])) p) := fun b o e => by
                  obtain ⟨n1, n2, n3⟩ := nE2 e
                  rw [wo_ne n1, upd_ne n3]
                  exact sN _ _ e
                have sZ2 : L2.Same Z (wo (wo (upd H8 c (.tup [.str "chance", .ref E8])) p) F0) := fun b o e => by
                  obtain ⟨n1, n2, n3⟩ := nE2 e
                  rw [wo_ne n2]
                  exact sZ1 _ _ e
                obtain ⟨q1, q2, q3, q4, q5, q6⟩ := exch H8 c (.chance (l2.map fun q => (q.1, (q.2, (1 : Int))))) sX8 hc GX b08 p8 (.tup [.str "chance", .ref E8]) (by
                  have n : c ≠ p := fun e => by
                    obtain ⟨ns, e2, _⟩ := p8
                    rw [e, e2] at hc
                    cases hc
                  exact ⟨E8, by rw [wo_ne n]; exact upd_same, pairs_same sZ1 dE⟩) (fun _ _ => trivial)
                walk_at "go"
                refine x_putL (l := m) (x := c) (by rw [upd_ne q3.symm]; exact h8F) (by omega) rfl ?_
                have hW9 := q4 W _ hW nWp
                have d9 := q6 ⟨E8, by rw [wo_ne q3, wo_ne q2]; exact upd_same, pairs_same sZ2 dE⟩
                generalize upd (upd H8 c (.tup [.str "chance", .ref E8])) F0 (.dK (strK V.ref (putL m z c))) = H9 at q4 q5 hW9 d9 ⊢
                walk_at "go"
                refine x_ixl 0 (SqL.of hW9) rfl rfl ?_
                walk_at "go"
                refine x_ixl 1 (SqL.of hW9) rfl rfl ?_
                walk_at "go"
                refine ⟨sz_le (by simp), fun R nR => ?_⟩
                walk_at "go"
                exact out H9 R _ q4 q5 nR d9 GX
              · walk_at "go"
                refine x_lenT (SqT.of h7a) ?_
                walk_at "go"
                refine x_yes rfl ?_
                walk_at "go"
                refine x_putL (l := l2) (x := to) h7d (by omega) rfl ?_
                obtain ⟨i1, i2, i3⟩ := inner H7 _ (.hand k2 (putL l2 stp to)) (But.refl) h7d p7 (.dK (strK V.str (putL l2 stp to))) fun Y sY hd _ => ⟨d2, sY _ _ (by rw [wo_ne nad]; exact xa), hd⟩
                have hW9 := i1 W _ hW nWp
                generalize upd H7 d2 (.dK (strK V.str (putL l2 stp to))) = H10 at i1 i2 i3 hW9 ⊢
                walk_at "go"
                refine x_ixl 0 (SqL.of hW9) rfl rfl ?_
                walk_at "go"
                refine x_ixl 1 (SqL.of hW9) rfl rfl ?_
                walk_at "go"
                refine ⟨sz_le (by simp), fun R nR => ?_⟩
                walk_at "go"
                exact out H10 R (.hand k2 (putL l2 stp to)) i1 i2 nR i3 ⟨g1, g2, putL_nd _ g3, putL_pos _ _ _, by
                  have := congrArg List.length (putL_keys to hstp3)
                  rw [List.length_map, List.length_map] at this
                  omega, fun q hq => by
                  rcases putL_mem hq with e | ⟨e, _⟩
                  · rw [e]
                    obtain ⟨v, hv⟩ := lookup_isSome hstp3
                    exact ⟨(g6 _ (lookup_mem hv)).1, hto3⟩
                  · exact g6 q e⟩

        | chance l2 =>
          obtain ⟨d2, ea, ed⟩ := hxa2
          obtain ⟨g3, g4, g5, g6⟩ := gx
          obtain ⟨m2x, r1, r2, r3⟩ := ed.ex
          have xa := (wo_some ea).1
          obtain ⟨xd, nd2F⟩ := wo_some r1
          have nFd := nd2F.symm
          have nad : a ≠ d2 := fun e => by rw [e, xd] at xa; cases xa
          have xi : InD X a d2 := ⟨[.str "chance"], xa⟩
          have h4a := (at4 _ _ xa).1
          obtain ⟨h4d, nd2p⟩ := at4 _ _ xd
          have lm2 : m2x.length = l2.length := by
            have := congrArg List.length r2
            rwa [List.length_map, List.length_map] at this
          refine x_lenT (SqT.of h4a) ?_
          walk_at "go"
          refine x_no (by simp) ?_
          walk_at "go"
          refine x_lenT (SqT.of h4a) ?_
          walk_at "go"
          refine x_ixt 1 (SqT.of h4a) rfl rfl ?_
          walk_at "go"
          refine ⟨d2, _, rfl, h4d, fun S nS => ?_⟩
          have ekk2 : (strK V.ref m2x).map (fun kv => kV kv.1) = strsV (m2x.map (·.1)) := by
            rw [List.map_map]
            show _ = List.map V.str (List.map _ m2x)
            rw [List.map_map]
            rfl
          rw [ekk2]
          have s5 : L2.Same H4 (upd H4 S (.lst (strsV (m2x.map (·.1))))) := same_new nS
          have hS5 : (upd H4 S (.lst (strsV (m2x.map (·.1))))) S = some (.lst (strsV (m2x.map (·.1)))) := upd_same
          have nSp : S ≠ p := fun e => by
            obtain ⟨ns, e2, _⟩ := p4
            rw [e, e2] at nS
            cases nS
          have p5 : PoolAt (upd H4 S (.lst (strsV (m2x.map (·.1))))) p := by
            obtain ⟨ns, e, o⟩ := p4
            exact ⟨ns, s5 _ _ e, o⟩
          generalize upd H4 S (.lst (strsV (m2x.map (·.1)))) = H5 at s5 hS5 p5 ⊢
          walk_at "go"
          refine x_lenD (.inl (s5 _ _ h4d)) ?_
          refine ⟨p, _, rfl, p5, by rw [List.length_map]; omega, by rw [List.length_map]; omega, fun H6 t2 b6 p6 t20 t21 => ?_⟩
          obtain ⟨stp, hstp, hstp2⟩ := pickS (m2x.map (·.1)) (j := t2) t20 (by rw [List.length_map] at t21 ⊢; exact t21)
          have hstp3 := List.mem_of_getElem? hstp2
          walk_at "go"
          refine x_ixl t2.toNat (SqL.of (b6 S _ hS5 nSp)) (by omega) hstp ?_
          walk_at "go"
          have b46 : But p H4 H6 := (But.of_same s5).trans b6
          have hN6 := b46 N _ hN4 nNp
          refine x_lenL (SqL.of hN6) ?_
          refine ⟨p, _, rfl, p6, by rw [List.length_map, List.length_map]; omega, by rw [List.length_map, List.length_map]; omega, fun H7 t3 b7 p7 t30 t31 => ?_⟩
          obtain ⟨to, hto, hto2⟩ := pickS (l.map (·.1)) (j := t3) t30 (by rw [List.length_map] at t31; exact t31)
          have hto3 := List.mem_of_getElem? hto2
          have b47 : But p H4 H7 := b46.trans b7
          have hN7 := b47 N _ hN4 nNp
          walk_at "go"
          refine x_ixl t3.toNat (SqL.of hN7) (by omega) hto ?_
          walk_at "go"
          have b07 : But p H H7 := b04.trans b47
          have hW7 := b07 W _ hW nWp
          have sX7 : L2.Same X (wo H7 p) := fun b o e => by
            obtain ⟨e1, n1⟩ := wo_some (sX4 b o e)
            rw [wo_ne n1]
            exact b47 _ _ e1 n1
          have at7 : ∀ b o, X b = some o → H7 b = some o ∧ b ≠ p := fun b o e => by
            obtain ⟨e1, n1⟩ := wo_some (sX7 b o e)
            exact ⟨e1, n1⟩
          have h7a := (at7 _ _ xa).1
          have h7d := (at7 _ _ xd).1
          have h7F := (at7 _ _ m1).1
          -- the dict of the steps changed at a later heap
          have inner : ∀ (G : Hp) (c : HO) (x' : Sd), But p H7 G → G d2 = some c → PoolAt G p → ∀ o, (∀ Y, L2.Same (wo X d2) Y → Y d2 = some o → (∀ b o', G b = some o' → b ≠ p → b ≠ d2 → Y b = some o') → SdAt Y a x') →
              (∀ b o', H b = some o' → b ≠ p → (upd G d2 o) b = some o') ∧ PoolAt (upd G d2 o) p ∧ DictOf SdAt (wo (upd G d2 o) p) F0 (putL l z x') := fun G c x' bG hG pG o hx' => by
            have nHd : H d2 = none := by
              cases e : H d2 with
              | none => rfl
              | some o =>
                have e1 := b1 _ _ e nd2p
                rw [hX d2 _ xd (fun xs z => by cases z)] at e1
                cases e1
            have sY : L2.Same (wo X d2) (wo (upd G d2 o) p) := fun b o' e => by
              obtain ⟨e1, n1⟩ := wo_some e
              obtain ⟨e2, n2⟩ := at7 _ _ e1
              rw [wo_ne n2, upd_ne n1]
              exact bG _ _ e2 n2
            refine ⟨fun b o' e n => ?_, ?_, ?_⟩
            · rw [upd_ne (ne_of_none e nHd)]
              exact bG _ _ (b07 _ _ e n) n
            · obtain ⟨ns, e2, q⟩ := pG
              exact ⟨ns, by rw [upd_ne nd2p.symm]; exact e2, q⟩
            · refine tab_in nm m2 m3 m4 hza xi sY ?_ (hx' _ sY ?_ fun b o' e n1 n2 => ?_)
              · exact sY _ _ (by rw [wo_ne nFd]; exact m1)
              · rw [wo_ne nd2p]; exact upd_same
              · rw [wo_ne n1, upd_ne n2]; exact e
          have out : ∀ (G : Hp) (R : Addr) (x' : Sd), (∀ b o, H b = some o → b ≠ p → G b = some o) → PoolAt G p → G R = none → DictOf SdAt (wo G p) F0 (putL l z x') → GoodSd h (l.map (·.1)) x' → Q (.ref R) (upd G R (.lst [.int h, .str st, .ref F0])) := fun G R x' bG pG nR dG gx' => fin G R h st _ bG pG nR dG (g.put hz2 gx') h1 h4 (stl _)

          obtain ⟨c0, hc0⟩ := lookup_isSome hstp3
          obtain ⟨q0, hq0, pq0⟩ := r3 stp c0 (lookup_mem hc0)
          have pa : ∀ Y, L2.Same (wo X d2) Y → ∀ b v, PairAt (wo X F0) b v → PairAt Y b v := fun Y s b v h => by
            have e1 := (wo_some (show (wo X F0) b = some _ from h)).1
            exact s b _ (by rw [wo_ne (fun q => by rw [q, xd] at e1; cases e1)]; exact e1)
          have h7c := (at7 _ _ (wo_some (show (wo X F0) c0 = some _ from pq0)).1).1
          refine x_dec (fun hk3 => ?_) (fun hk3 => ?_)
          · walk_at "go"
            refine ⟨.ref d2, rfl, d2, rfl, .inl ⟨_, .inl h7d⟩, .str stp, rfl, ?_⟩
            refine ⟨_, Sum.inr stp, V.ref c0, h7d, rfl, by rw [strK_look, hc0]; rfl, ?_⟩
            rw [strK_del]
            walk_at "go"
            have p8 : PoolAt (upd H7 d2 (.dK (strK V.ref (delL m2x stp)))) p := by
              obtain ⟨ns, e, o⟩ := p7
              exact ⟨ns, by rw [upd_ne nd2p.symm]; exact e, o⟩
            refine ⟨p, 4, rfl, p8, by decide, by decide, fun H9 ww b9 p9 nww => ?_⟩
            have h9d := b9 d2 _ upd_same nd2p
            have ld := delL_len hstp3
            refine x_putL (l := delL m2x stp) (x := c0) h9d (by omega) rfl ?_
            have nHd : ∀ b o', H b = some o' → b ≠ p → b ≠ d2 := fun b o' e n q => by
              rw [q] at e
              have e1 := b1 _ _ e nd2p
              rw [hX d2 _ xd (fun xs z => by cases z)] at e1
              cases e1
            have i1 : ∀ b o', H b = some o' → b ≠ p → (upd H9 d2 (.dK (strK V.ref (putL (delL m2x stp) ww c0)))) b = some o' := fun b o' e n => by
              have n2 := nHd b o' e n
              rw [upd_ne n2]
              exact b9 b o' (by rw [upd_ne n2]; exact b07 _ _ e n) n
            have i2 : PoolAt (upd H9 d2 (.dK (strK V.ref (putL (delL m2x stp) ww c0)))) p := by
              obtain ⟨ns, e, o⟩ := p9
              exact ⟨ns, by rw [upd_ne nd2p.symm]; exact e, o⟩
            have sY : L2.Same (wo X d2) (wo (upd H9 d2 (.dK (strK V.ref (putL (delL m2x stp) ww c0)))) p) := fun b o' e => by
              obtain ⟨e1, n1⟩ := wo_some e
              obtain ⟨e2, n2⟩ := at7 _ _ e1
              rw [wo_ne n2, upd_ne n1]
              exact b9 b o' (by rw [upd_ne n1]; exact e2) n2
            have i3 : DictOf SdAt (wo (upd H9 d2 (.dK (strK V.ref (putL (delL m2x stp) ww c0)))) p) F0 (putL l z (.chance (putL (delL l2 stp) ww q0))) :=
              tab_in nm m2 m3 m4 hza xi sY (sY _ _ (by rw [wo_ne nFd]; exact m1)) ⟨d2, sY _ _ (by rw [wo_ne nad]; exact xa), pairs_put (delL_keys r2) (at_del r3) (pa _ sY) (by rw [wo_ne nd2p]; exact upd_same) (pa _ sY _ _ pq0)⟩
            have hW9 := i1 W _ hW nWp
            have ld2 : (delL l2 stp).length + 1 ≤ l2.length := delL_len (by rw [← r2]; exact hstp3)
            generalize upd H9 d2 (.dK (strK V.ref (putL (delL m2x stp) ww c0))) = H10 at i1 i2 i3 hW9 ⊢
            walk_at "go"
            refine x_ixl 0 (SqL.of hW9) rfl rfl ?_
            walk_at "go"
            refine x_ixl 1 (SqL.of hW9) rfl rfl ?_
            walk_at "go"
            refine ⟨sz_le (by simp), fun R nR => ?_⟩
            walk_at "go"
            exact out H10 R _ i1 i2 nR i3 ⟨putL_nd _ (delL_nd g3), putL_pos _ _ _, Nat.le_trans (putL_len _ _ _) (by omega), fun q hq => by
              rcases putL_mem hq with e | ⟨e, _⟩
              · rw [e]; exact ⟨nww, (g6 _ (lookup_mem hq0)).2⟩
              · exact g6 q (List.mem_filter.mp e).1⟩
          · walk_at "go"
            refine x_lenT (SqT.of h7a) ?_
            walk_at "go"
            refine x_no (by simp) ?_
            walk_at "go"
            refine x_lenT (SqT.of h7a) ?_
            walk_at "go"
            refine x_no (by simp) ?_
            walk_at "go"
            refine x_lenT (SqT.of h7a) ?_
            walk_at "go"
            refine x_no (by simp) ?_
            walk_at "go"
            have put : ∀ (G : Hp) (c : Addr) (q : Str × Int), But p H7 G → PoolAt G p → G c = none → q.1 ∈ l.map (·.1) → 1 ≤ q.2 → q.2 ≤ 9 →
                (upd G c (.tup [.str q.1, .int q.2])) d2 = some (.dK (strK V.ref m2x)) ∧ ((∀ b o', H b = some o' → b ≠ p → (upd (upd G c (.tup [.str q.1, .int q.2])) d2 (.dK (strK V.ref (putL m2x stp c)))) b = some o') ∧ PoolAt (upd (upd G c (.tup [.str q.1, .int q.2])) d2 (.dK (strK V.ref (putL m2x stp c)))) p ∧
                  DictOf SdAt (wo (upd (upd G c (.tup [.str q.1, .int q.2])) d2 (.dK (strK V.ref (putL m2x stp c)))) p) F0 (putL l z (.chance (putL l2 stp q)))) ∧ GoodSd h (l.map (·.1)) (.chance (putL l2 stp q)) := fun G c q bG pG nc q1 q2 q3 => by
              have hGd := bG _ _ h7d nd2p
              have ncd : d2 ≠ c := ne_of_none hGd nc
              have ncp : c ≠ p := fun e => by
                obtain ⟨ns, e2, _⟩ := pG
                rw [e, e2] at nc
                cases nc
              have h8d : (upd G c (.tup [.str q.1, .int q.2])) d2 = some (.dK (strK V.ref m2x)) := by rw [upd_ne ncd]; exact hGd
              refine ⟨h8d, inner (upd G c (.tup [.str q.1, .int q.2])) _ _ (bG.new nc) h8d ?_ _ fun Y sY hd hG => ⟨d2, sY _ _ (by rw [wo_ne nad]; exact xa), pairs_put r2 r3 (pa _ sY) hd (hG c _ upd_same ncp ncd.symm)⟩, putL_nd _ g3, putL_pos _ _ _, ?_, fun r hr => ?_⟩
              · obtain ⟨ns, e, o⟩ := pG
                exact ⟨ns, by rw [upd_ne ncp.symm]; exact e, o⟩
              · have := congrArg List.length (putL_keys q (show stp ∈ l2.map (·.1) by rw [← r2]; exact hstp3))
                rw [List.length_map, List.length_map] at this
                omega
              · rcases putL_mem hr with e | ⟨e, _⟩
                · rw [e]
                  exact ⟨(g6 _ (lookup_mem hq0)).1, q1, q2, q3⟩
                · exact g6 r e
            refine x_dec (fun hk6 => ?_) (fun hk6 => ?_)
            · walk_at "go"
              refine x_getL (l := m2x) (f := V.ref) (.inl h7d) hc0 ?_
              walk_at "go"
              refine x_ixt 1 (SqT.of h7c) rfl rfl ?_
              walk_at "go"
              refine ⟨sz_le (by simp), fun c hc => ?_⟩
              obtain ⟨h8d, ⟨i1, i2, i3⟩, GX⟩ := put H7 c (to, q0.2) But.refl p7 hc hto3 (g6 _ (lookup_mem hq0)).2.2.1 (g6 _ (lookup_mem hq0)).2.2.2
              walk_at "go"
              refine x_putL (l := m2x) (x := c) h8d (by omega) rfl ?_
              have hW9 := i1 W _ hW nWp
              generalize upd (upd H7 c (.tup [.str to, .int q0.2])) d2 (.dK (strK V.ref (putL m2x stp c))) = H10 at i1 i2 i3 hW9 ⊢
              walk_at "go"
              refine x_ixl 0 (SqL.of hW9) rfl rfl ?_
              walk_at "go"
              refine x_ixl 1 (SqL.of hW9) rfl rfl ?_
              walk_at "go"
              refine ⟨sz_le (by simp), fun R nR => ?_⟩
              walk_at "go"
              exact out H10 R _ i1 i2 nR i3 GX
            · walk_at "go"
              refine x_getL (l := m2x) (f := V.ref) (.inl h7d) hc0 ?_
              walk_at "go"
              refine x_ixt 0 (SqT.of h7c) rfl rfl ?_
              walk_at "go"
              refine ⟨p, 9, rfl, p7, by decide, by decide, fun H8 t4 b8 p8 t40 t41 => ?_⟩
              walk_at "go"
              refine ⟨sz_le (by simp), fun c hc => ?_⟩
              obtain ⟨h8d, ⟨i1, i2, i3⟩, GX⟩ := put H8 c (q0.1, 1 + t4) b8 p8 hc (g6 _ (lookup_mem hq0)).2.1 (by show 1 ≤ 1 + t4; omega) (by show 1 + t4 ≤ 9; omega)
              walk_at "go"
              refine x_putL (l := m2x) (x := c) h8d (by omega) rfl ?_
              have hW9 := i1 W _ hW nWp
              generalize upd (upd H8 c (.tup [.str q0.1, .int (1 + t4)])) d2 (.dK (strK V.ref (putL m2x stp c))) = H10 at i1 i2 i3 hW9 ⊢
              walk_at "go"
              refine x_ixl 0 (SqL.of hW9) rfl rfl ?_
              walk_at "go"
              refine x_ixl 1 (SqL.of hW9) rfl rfl ?_
              walk_at "go"
              refine ⟨sz_le (by simp), fun R nR => ?_⟩
              walk_at "go"
              exact out H10 R _ i1 i2 nR i3 GX

end
/-! ### k09: other wishes -/
def unS (t : Nat) : Str := ("u" : Str) ++ Str.ofString (toString ((t : Nat) : Int))
theorem unS_tl (t : Nat) : (unS t).cps.toList = 117 :: TL.numL t := by
  unfold unS
  rw [tl_app]
  have e : ("u" : Str).cps.toList = [117] := by decide +kernel
  rw [e]
  show 117 :: _ = _
  exact congrArg (List.cons 117) (TL.tl_num t)
theorem unS_inj {a b : Nat} (h : unS a = unS b) : a = b := by
  have e := congrArg (fun z : Str => z.cps.toList) h
  simp only [unS_tl, List.cons.injEq, true_and] at e
  exact TL.numL_inj e
theorem unS_name {t : Nat} (h : t < 1000000) : NameS (unS t) := by
  refine ⟨117, TL.numL t, unS_tl t, ⟨by omega, by omega⟩, ?_, fun e he => ?_⟩
  · exact Nat.le_trans (TL.numL_len (k := 6) (by decide) (by simpa using h)) (by decide)
  · have := TL.numL_digits t e he
    exact .inr ⟨this.1, this.2⟩
theorem all_un {ws : List Str} {n : Nat} (h : ∀ t < n, unS t ∈ ws) : n ≤ ws.length := by
  have nd : ((List.range n).map unS).Nodup := by
    refine List.pairwise_map.mpr (List.Pairwise.imp (fun {a b} hab e => ?_) (List.nodup_range (n := n)))
    exact hab (unS_inj e)
  have sub : ((List.range n).map unS) ⊆ ws := fun x hx => by
    obtain ⟨t, ht, rfl⟩ := List.mem_map.mp hx
    exact h t (List.mem_range.mp ht)
  have := List.Nodup.length_le_of_subset nd sub
  simpa using this
/-- a dict with the worths of a right wish that is another one -/
def OthW (e : Int) (wl : List (Str × Int)) (H : Hp) (c : Addr) : Prop := ∃ l', H c = some (.dK (strK V.int l')) ∧ GoodW l' e ∧ eqA (· == ·) wl l' = false
def spOtherW : Sp := fun vs H Q _ => ∃ (p G : Addr) (e : Int) (wl : List (Str × Int)), vs = [.ref p, .ref G, .int e] ∧ PoolAt H p ∧ H G = some (.dK (strK V.int wl)) ∧ GoodW wl e ∧
  ∀ H' R (cs : List Addr), But p H H' → PoolAt H' p → H R = none → H' R = some (.lst (cs.map V.ref)) → cs.length ≤ 3 → (∀ c ∈ cs, OthW e wl H' c) → Q (.ref R) H'
theorem GoodW.put {wl : List (Str × Int)} {e : Int} (g : GoodW wl e) {z : Str} {x y : Int} (hx : wl.lookup z = some x) (y1 : -99 ≤ y) (y2 : y ≤ 99) (sd : Side e (putL wl z y)) : GoodW (putL wl z y) e := by
  have hz := List.mem_map_of_mem (f := (·.1)) (lookup_mem hx)
  have len := congrArg List.length (putL_keys y hz)
  rw [List.length_map, List.length_map] at len
  refine ⟨putL_nd _ g.nd, by rw [len]; exact g.len, fun q hq => ?_, fun q hq => ?_, g.elo, sd⟩
  · rcases putL_mem hq with e | ⟨e, _⟩
    · rw [e]; exact g.nm (z, x) (lookup_mem hx)
    · exact g.nm q e
  · rcases putL_mem hq with e | ⟨e, _⟩
    · rw [e]; exact ⟨y1, y2⟩
    · exact g.lo q e
theorem eqA_put {wl : List (Str × Int)} (nd : (wl.map (·.1)).Nodup) {z : Str} {x y : Int} (hx : wl.lookup z = some x) (n : x ≠ y) : eqA (· == ·) wl (putL wl z y) = false := by
  refine Bool.eq_false_iff.mpr fun h => ?_
  have s := (eqA_iff nd (putL_nd y nd)).mp h z
  rw [hx, lookup_putL, if_pos rfl] at s
  exact n (eq_of_beq s)
theorem GoodW.moved {wl : List (Str × Int)} {e : Int} (g : GoodW wl e) {z w : Str} {x : Int} (hx : wl.lookup z = some x) (hw : NameS w) (nw : w ∉ wl.map (·.1)) : GoodW (putL (delL wl z) w x) e ∧ eqA (· == ·) wl (putL (delL wl z) w x) = false := by
  have hz := List.mem_map_of_mem (f := (·.1)) (lookup_mem hx)
  have ld : (delL wl z).length + 1 ≤ wl.length := delL_len hz
  have mem : ∀ q ∈ putL (delL wl z) w x, (q = (w, x)) ∨ q ∈ wl := fun q hq => (putL_mem hq).imp id fun h => (List.mem_filter.mp h.1).1
  have lx := lookup_mem hx
  refine ⟨⟨putL_nd _ (delL_nd g.nd), Nat.le_trans (putL_len _ _ _) (by have := g.len; omega), fun q hq => ?_, fun q hq => ?_, g.elo, ?_⟩, Bool.eq_false_iff.mpr fun h => ?_⟩
  · rcases mem q hq with e | h
    · rw [e]; exact hw
    · exact g.nm q h
  · rcases mem q hq with e | h
    · rw [e]; exact g.lo (z, x) lx
    · exact g.lo q h
  · rcases g.side with s | s
    · refine .inl fun q hq => ?_
      rcases mem q hq with e | h
      · rw [e]; exact s (z, x) lx
      · exact s q h
    · refine .inr fun q hq => ?_
      rcases mem q hq with e | h
      · rw [e]; exact s (z, x) lx
      · exact s q h
  · have s := (eqA_iff g.nd (putL_nd x (delL_nd g.nd))).mp h z
    have nzw : z ≠ w := fun q => nw (q ▸ hz)
    have e0 : (delL wl z).lookup z = none := by
      cases e : (delL wl z).lookup z with
      | none => rfl
      | some v =>
        have := (List.mem_filter.mp (lookup_mem e)).2
        simp at this
    rw [hx, lookup_putL, if_neg nzw, e0] at s
    exact s
section
variable {P : Program} {w : World} {K : PySem.W.Frag} {mg : Str → Option Value} {base : Heap} {C : Addr}
theorem ok_l_other_wishes {f : Addr} {fd : FuncData} (F : Fun K "_law_other_wishes" "_law_other_wishes" s_l_other_wishes f fd) (Z_list : mg "list" = none) (Z_len : mg "len" = none) (Z_dict : mg "dict" = none) (Z_all : mg "all" = none) (Z_range : mg "range" = none) (Z_str : mg "str" = none)
    (C_draw : Cal P w K mg base 1 "_law_draw" ["_law_pool_here", "_law_many"] spDraw) (C_word : Cal P w K mg base 2 "_law_word" ["_law_pool_here", "_law_longest"] spWord) : FnOk P w K mg base CX0 3 f fd ["_law_pool_here", "_law_wanted", "_law_endless_here"] spOtherW := by
  refine F.ok sc_l_other_wishes (fun vs H Q E h => ?_) (fun cdv A outer s H vs Q E hr h => ?_)
  · obtain ⟨_, _, _, _, rfl, _⟩ := h
    rfl
  · obtain ⟨p, G, e, wl, rfl, hp, hG, g, k⟩ := h
    have hu := hu_of hr
    have gl := g.len
    refine ⟨_, (pss_cons (ps_set (i := 3) sc_l_other_wishes.nd rfl (Or.inl rfl) (pe_lst pa_nil))
      (pss_cons (ps_set (i := 4) sc_l_other_wishes.nd rfl (Or.inl rfl) (pe_callTy (call_list_dK rfl) (by rfl) Z_list (by decide +kernel) (pa_cons (pv 1) pa_nil)))
      (pss_cons (ps_if (pt_cmpR op_eq (pe_callB call_lenA (by rfl) Z_len (by decide +kernel) (pa_cons (pv 4) pa_nil)) pe_int (nomark _))
      (pss_one (ps_ret (pv 3)))
      pss_nil)
      (pss_cons (ps_set (i := 5) sc_l_other_wishes.nd rfl (Or.inl rfl) (pe_ix ix_list (pv 4) (pe_cal C_draw (hr.mono (by decide)) (by rfl) (pa_cons (pv 0) (pa_cons (pe_callB call_lenA (by rfl) Z_len (by decide +kernel) (pa_cons (pv 4) pa_nil)) pa_nil))) (fun _ _ => rfl)))
      (pss_cons (ps_for PassesOwn.never rfl (pi_list (pe_lst (pa_cons (pe_op op_add (pe_dget hu (pv 1) (pv 5) (fun _ _ => rfl)) pe_int) (pa_cons (pe_op op_sub (pe_dget hu (pv 1) (pv 5) (fun _ _ => rfl)) pe_int) pa_nil)))) (pg_name (i := 6) sc_l_other_wishes.nd rfl (Or.inl rfl))
      (pss_cons (ps_set (i := 7) sc_l_other_wishes.nd rfl (Or.inr rfl) (pe_callTy call_dictA (by rfl) Z_dict (by decide +kernel) (pa_cons (pv 1) pa_nil)))
      (pss_cons (ps_dput hu (pv 7) (pv 5) (pv 6) rfl)
      (pss_cons (ps_set (i := 8) sc_l_other_wishes.nd rfl (Or.inl rfl) (pe_callB (cr_all rfl) (by rfl) Z_all (by decide +kernel) (pa_cons (pe_lock (pe_lc (own := [("_law_each", 12)]) (g := gName 12) (tt := tYes) (by rfl) sc_l_other_wishes.nd (pi_keys (pv 7)) (blkOk_by (own := [("_law_each", 12)]) (N := N_l_other_wishes) (sc := defScope s_l_other_wishes) (by decide +kernel)) (fun _ _ _ _ _ => (pg_name (i := 12) sc_l_other_wishes.nd rfl (Or.inl rfl))) (fun _ _ _ _ _ => pts_nil) (fun _ _ _ _ _ => by exact (pe_cmpR op_le (pv 2) (pe_dget hu (pv 7) (pv 12) (fun _ _ => rfl)) (nomark _))))) pa_nil)))
      (pss_cons (ps_set (i := 9) sc_l_other_wishes.nd rfl (Or.inl rfl) (pe_callB (cr_all rfl) (by rfl) Z_all (by decide +kernel) (pa_cons (pe_lock (pe_lc (own := [("_law_each", 12)]) (g := gName 12) (tt := tYes) (by rfl) sc_l_other_wishes.nd (pi_keys (pv 7)) (blkOk_by (own := [("_law_each", 12)]) (N := N_l_other_wishes) (sc := defScope s_l_other_wishes) (by decide +kernel)) (fun _ _ _ _ _ => (pg_name (i := 12) sc_l_other_wishes.nd rfl (Or.inl rfl))) (fun _ _ _ _ _ => pts_nil) (fun _ _ _ _ _ => by exact (pe_cmpR op_ge (pv 2) (pe_dget hu (pv 7) (pv 12) (fun _ _ => rfl)) (nomark _))))) pa_nil)))
      (pss_one (ps_if (PW.pt (pw_and (pt_cmpR op_ge (pv 6) (pe_un un_neg pe_int) (nomark _)) (pw_and (pt_cmpR op_le (pv 6) pe_int (nomark _)) (pw_and1 (PW.pt (pw_or (pt_val (pv 8)) (pw_or1 (pt_val (pv 9)))))))))
      (pss_one (ps_expr (pe_bm PySem.F.plainAttrs_list PySem.F.slot_list_append PySem.F.type_list_append mt_append (pv 3) (pa_cons (pv 7) pa_nil))))
      pss_nil)))))))
      (pss_cons (ps_set (i := 7) sc_l_other_wishes.nd rfl (Or.inr rfl) (pe_callTy call_dictA (by rfl) Z_dict (by decide +kernel) (pa_cons (pv 1) pa_nil)))
      (pss_cons (ps_set (i := 10) sc_l_other_wishes.nd rfl (Or.inl rfl) (pe_cal C_word (hr.mono (by decide)) (by rfl) (pa_cons (pv 0) (pa_cons pe_int pa_nil))))
      (pss_cons (ps_set (i := 6) sc_l_other_wishes.nd rfl (Or.inl rfl) (pe_dpop1 (pv 7) (by exact (pv 5)) ⟨by rfl, by first | rfl | decide +kernel, by rfl, by rfl⟩))
      (pss_cons (ps_for PassesOwn.never rfl (pi_range1 rfl Z_range (pa_cons (pe_op op_add (pe_callB call_lenA (by rfl) Z_len (by decide +kernel) (pa_cons (pv 4) pa_nil)) pe_int) pa_nil)) (pg_name (i := 11) sc_l_other_wishes.nd rfl (Or.inl rfl))
      (pss_one (ps_if (pt_cmpR op_in_seq (pv 10) (pv 4) rfl)
      (pss_one (ps_set (i := 10) sc_l_other_wishes.nd rfl (Or.inl rfl) (pe_op op_addSA pe_str (pe_callTy call_strIA (by rfl) Z_str (by decide +kernel) (pa_cons (pv 11) pa_nil)))))
      pss_nil)))
      (pss_cons (ps_dput hu (pv 7) (pv 10) (pv 6) rfl)
      (pss_one (ps_ret (pe_op op_cat (pv 3) (pe_lst (pa_cons (pv 7) pa_nil))))))))))))))), ?_⟩
    walk_at "go"
    refine ⟨sz_le (by simp), fun R hR => ?_⟩
    have nGR : G ≠ R := ne_of_none hG hR
    have nRp : R ≠ p := hp.ne hR
    have s1 : L2.Same H (upd H R (.lst [])) := same_new hR
    have hR1 : (upd H R (.lst [])) R = some (.lst []) := upd_same
    have p1 : PoolAt (upd H R (.lst [])) p := hp.same s1
    generalize upd H R (.lst []) = H1 at s1 hR1 p1 ⊢
    walk_at "go"
    refine ⟨G, _, rfl, s1 _ _ hG, fun N nN => ?_⟩
    have ekk : (strK V.int wl).map (fun kv => kV kv.1) = strsV (wl.map (·.1)) := by
      rw [List.map_map]
      show _ = List.map V.str (List.map _ wl)
      rw [List.map_map]
      rfl
    rw [ekk]
    have s2 : L2.Same H1 (upd H1 N (.lst (strsV (wl.map (·.1))))) := same_new nN
    have hN2 : (upd H1 N (.lst (strsV (wl.map (·.1))))) N = some (.lst (strsV (wl.map (·.1)))) := upd_same
    have nNp : N ≠ p := p1.ne nN
    have p2 : PoolAt (upd H1 N (.lst (strsV (wl.map (·.1))))) p := p1.same s2
    have nNR : N ≠ R := (ne_of_none hR1 nN).symm
    generalize upd H1 N (.lst (strsV (wl.map (·.1)))) = H2 at s2 hN2 p2 ⊢
    walk_at "go"
    have s02 : L2.Same H H2 := s1.trans s2
    refine x_dec (fun hc => ?_) (fun hc => ?_)
    · walk_at "go"
      exact k H2 R [] (But.of_same s02) p2 hR (s2 _ _ hR1) (by decide) (fun c hc => by cases hc)
    · have wl0 : 0 < wl.length := by
        rw [List.length_map, List.length_map] at hc
        omega
      walk_at "go"
      refine ⟨p, _, rfl, p2, by rw [List.length_map, List.length_map]; omega, by rw [List.length_map, List.length_map]; omega, fun H3 t b3 p3 t0 t1 => ?_⟩
      obtain ⟨z, hz, hz2⟩ := pickS (wl.map (·.1)) (j := t) t0 (by rw [List.length_map] at t1; exact t1)
      obtain ⟨x, hx⟩ := lookup_isSome (List.mem_of_getElem? hz2)
      have hN3 := b3 N _ hN2 nNp
      walk_at "go"
      refine x_ixl t.toNat (SqL.of hN3) (by omega) hz ?_
      have nGp : G ≠ p := fun q => by
        obtain ⟨ns, e2, _⟩ := hp
        rw [← q, hG] at e2
        cases e2
      have hG3 := b3 G _ (s02 _ _ hG) nGp
      have hR3 := b3 R _ (s2 _ _ hR1) nRp
      have b03 : But p H H3 := (But.of_same s02).trans b3
      walk_at "go"
      refine x_getL (l := wl) (f := V.int) (.inl hG3) hx ?_
      walk_at "go"
      refine x_getL (l := wl) (f := V.int) (.inl hG3) hx ?_
      walk_at "go"
      refine ⟨sz_le (by simp), fun I hI => ?_⟩
      have s34 : L2.Same H3 (upd H3 I (.lst [.int (x + 1), .int (x - 1)])) := same_new hI
      have hI4 : (upd H3 I (.lst [.int (x + 1), .int (x - 1)])) I = some (.lst [.int (x + 1), .int (x - 1)]) := upd_same
      have p4 : PoolAt (upd H3 I (.lst [.int (x + 1), .int (x - 1)])) p := p3.same s34
      have nIR : I ≠ R := (ne_of_none hR3 hI).symm
      generalize upd H3 I (.lst [.int (x + 1), .int (x - 1)]) = H4 at s34 hI4 p4 ⊢
      have hG4 := s34 _ _ hG3
      have gx := g.lo (z, x) (lookup_mem hx)
      refine lpL (xs := [.int (x + 1), .int (x - 1)]) (fun i σ H' => ∃ (v6 v7 v8 v9 : Option V) (cs : List Addr), σ = [some (.ref p), some (.ref G), some (.int e), some (.ref R), some (.ref N), some (.str z), v6, v7, v8, v9, none, none, none] ∧ But R H4 H' ∧ H' R = some (.lst (cs.map V.ref)) ∧ cs.length ≤ i ∧ ∀ c ∈ cs, OthW e wl H' c)
        (SqL.of hI4) ?_ ?_ ?_ ?_
      · exact ⟨none, none, none, none, [], rfl, But.refl, s34 _ _ hR3, by decide, fun c hc => by cases hc⟩
      · exact fun i σ H' _ ⟨_, _, _, _, _, _, b, _⟩ => SqL.of (b I _ hI4 nIR)
      · rintro i v σ H5 hv ⟨v6, v7, v8, v9, cs, rfl, b5, hR5, lcs, hcs⟩
        have hi2 : i < 2 := (List.getElem?_eq_some_iff.mp hv).1
        obtain ⟨y, rfl, hy⟩ : ∃ y, v = .int y ∧ x ≠ y := by
          match i, hv with
          | 0, hv => exact ⟨x + 1, (Option.some.inj hv).symm, by omega⟩
          | 1, hv => exact ⟨x - 1, (Option.some.inj hv).symm, by omega⟩
          | i + 2, _ => omega
        have hG5 := b5 G _ hG4 nGR
        walk_at "go"
        refine x_dict (.inl hG5) fun D hD0 => ?_
        walk_at "go"
        refine x_putL (l := wl) (x := y) upd_same (by omega) rfl ?_
        rw [upd_upd]
        generalize hl' : putL wl z y = l'
        have s56 : L2.Same H5 (upd H5 D (.dK (strK V.int l'))) := same_new hD0
        have hD6 : (upd H5 D (.dK (strK V.int l'))) D = some (.dK (strK V.int l')) := upd_same
        have nDR : D ≠ R := (ne_of_none hR5 hD0).symm
        generalize upd H5 D (.dK (strK V.int l')) = H6 at s56 hD6 ⊢
        have g'nd : (l'.map (·.1)).Nodup := by rw [← hl']; exact putL_nd _ g.nd
        have ll : l'.length ≤ 63 := by
          have len := congrArg List.length (putL_keys y (List.mem_map_of_mem (f := (·.1)) (lookup_mem hx)))
          rw [List.length_map, List.length_map, hl'] at len
          omega
        walk_at "go"
        refine x_lockE (hD6) trivial (fun od => ?_)
        walk_at "go"
        refine runK upd_same ?_
        intro B1 hB1
        have nB1D : B1 ≠ D := fun q => by rw [q, upd_same] at hB1; cases hB1
        have hB10 : H6 B1 = none := by rw [upd_ne nB1D] at hB1; exact hB1
        refine lcK (fun i H' => But B1 (upd H6 D (.frz od (.dK (strK V.int l')))) H' ∧ H' B1 = some (.lst (((l'.take i).map fun q => decide (e ≤ q.2)).map V.bl))) ?_ ?_ ?_ ?_
        · exact ⟨But.refl.at_, upd_same⟩
        · exact fun i H' _ hv => hv.1 D _ upd_same nB1D.symm
        · rintro i k0 v0 H' hi ⟨hb1, hB1⟩
          obtain ⟨z', x', rfl, rfl, hlx⟩ := strK_at hi
          walk_at "go"
          refine ⟨rfl, ?_⟩
          walk_at "go"
          refine x_getS (kvs := strK V.int l') (.inr ⟨od, hb1 D _ upd_same nB1D.symm⟩) (strK_val g'nd hlx) ?_
          refine x_I0 ⟨_, hB1, sz_lt ?_, hb1.at_, ?_⟩
          · simp; omega
          · rw [upd_same, take_succ_get hlx]
            simp
        rintro H7 ⟨hb1, hB1⟩
        refine ⟨hb1 D _ upd_same nB1D.symm, ?_⟩
        rw [show (strK V.int l').length = l'.length from List.length_map .., List.take_length] at hB1
        have hB12 : (upd H7 D (.dK (strK V.int l'))) B1 = some (.lst ((l'.map fun q => decide (e ≤ q.2)).map V.bl)) := by rw [upd_ne nB1D]; exact hB1
        have sB1 : L2.Same H6 (upd H7 D (.dK (strK V.int l'))) := fun b o e' => by
          by_cases hbd : b = D
          · subst hbd
            rw [hD6] at e'
            rw [upd_same, e']
          · rw [upd_ne hbd]
            exact hb1 b o (by rw [upd_ne hbd]; exact e') (ne_of_none e' hB10)
        generalize upd H7 D (.dK (strK V.int l')) = H8 at hB12 sB1 ⊢
        walk_at "go"
        refine ⟨B1, _, rfl, SqL.of hB12, ?_⟩
        rw [List.all_map]
        walk_at "go"
        have hD8 := sB1 _ _ hD6
        refine x_lockE (hD8) trivial (fun od => ?_)
        walk_at "go"
        refine runK upd_same ?_
        intro B2 hB2
        have nB2D : B2 ≠ D := fun q => by rw [q, upd_same] at hB2; cases hB2
        have hB20 : H8 B2 = none := by rw [upd_ne nB2D] at hB2; exact hB2
        refine lcK (fun i H' => But B2 (upd H8 D (.frz od (.dK (strK V.int l')))) H' ∧ H' B2 = some (.lst (((l'.take i).map fun q => decide (q.2 ≤ e)).map V.bl))) ?_ ?_ ?_ ?_
        · exact ⟨But.refl.at_, upd_same⟩
        · exact fun i H' _ hv => hv.1 D _ upd_same nB2D.symm
        · rintro i k0 v0 H' hi ⟨hb1, hB1⟩
          obtain ⟨z', x', rfl, rfl, hlx⟩ := strK_at hi
          walk_at "go"
          refine ⟨rfl, ?_⟩
          walk_at "go"
          refine x_getS (kvs := strK V.int l') (.inr ⟨od, hb1 D _ upd_same nB2D.symm⟩) (strK_val g'nd hlx) ?_
          refine x_I0 ⟨_, hB1, sz_lt ?_, hb1.at_, ?_⟩
          · simp; omega
          · rw [upd_same, take_succ_get hlx]
            simp
        rintro H9 ⟨hb1, hB1⟩
        refine ⟨hb1 D _ upd_same nB2D.symm, ?_⟩
        rw [show (strK V.int l').length = l'.length from List.length_map .., List.take_length] at hB1
        have hB22 : (upd H9 D (.dK (strK V.int l'))) B2 = some (.lst ((l'.map fun q => decide (q.2 ≤ e)).map V.bl)) := by rw [upd_ne nB2D]; exact hB1
        have sB2 : L2.Same H8 (upd H9 D (.dK (strK V.int l'))) := fun b o e' => by
          by_cases hbd : b = D
          · subst hbd
            rw [hD8] at e'
            rw [upd_same, e']
          · rw [upd_ne hbd]
            exact hb1 b o (by rw [upd_ne hbd]; exact e') (ne_of_none e' hB20)
        generalize upd H9 D (.dK (strK V.int l')) = H10 at hB22 sB2 ⊢
        walk_at "go"
        refine ⟨B2, _, rfl, SqL.of hB22, ?_⟩
        rw [List.all_map]
        walk_at "go"
        have hD10 := sB2 _ _ hD8
        have s510 : L2.Same H5 H10 := s56.trans (sB1.trans sB2)
        have hR10 := s510 _ _ hR5
        have b10 : But R H4 H10 := b5.trans (But.of_same s510)
        have hcs10 : ∀ c ∈ cs, OthW e wl H10 c := fun c hc => by
          obtain ⟨l2, h1, h2⟩ := hcs c hc
          exact ⟨l2, s510 _ _ h1, h2⟩
        have noR : ∀ {b : Addr} {l2 : List (Str × Int)}, H10 b = some (.dK (strK V.int l2)) → b ≠ R := fun h q => by rw [q, hR10] at h; cases h
        have app : -99 ≤ y → y ≤ 99 → Side e l' → (But R H4 (upd H10 R (.lst (cs.map V.ref ++ [.ref D]))) ∧ (upd H10 R (.lst (cs.map V.ref ++ [.ref D]))) R = some (.lst ((cs ++ [D]).map V.ref)) ∧ (cs ++ [D]).length ≤ i + 1 ∧ ∀ c ∈ cs ++ [D], OthW e wl (upd H10 R (.lst (cs.map V.ref ++ [.ref D]))) c) := fun y1 y2 sd => by
          refine ⟨b10.at_, by rw [upd_same, List.map_append]; rfl, by rw [List.length_append]; exact Nat.succ_le_succ lcs, fun c hc => ?_⟩
          rcases List.mem_append.mp hc with hc | hc
          · obtain ⟨l2, h1, h2⟩ := hcs10 c hc
            exact ⟨l2, by rw [upd_ne (noR h1)]; exact h1, h2⟩
          · rw [List.mem_singleton.mp hc]
            rw [← hl'] at sd
            refine ⟨l', by rw [upd_ne (noR hD10)]; exact hD10, ?_⟩
            rw [← hl']
            exact ⟨g.put hx y1 y2 sd, eqA_put g.nd hx hy⟩
        refine x_dec (fun h1 => ?_) (fun h1 => ?_)
        · walk_at "go"
          refine x_dec (fun h2 => ?_) (fun h2 => ?_)
          · walk_at "go"
            refine x_ite (fun h3 => ?_) (fun h3 => ?_)
            · walk_at "go"
              refine x_app hR10 (sz_lt (by rw [List.length_map]; omega)) ?_
              exact ⟨_, _, _, _, cs ++ [D], rfl, app h1 h2 (.inl fun q hq => of_decide_eq_true (List.all_eq_true.mp h3 q hq))⟩
            · walk_at "go"
              refine x_ite (fun h4 => ?_) (fun h4 => ?_)
              · walk_at "go"
                refine x_app hR10 (sz_lt (by rw [List.length_map]; omega)) ?_
                exact ⟨_, _, _, _, cs ++ [D], rfl, app h1 h2 (.inr fun q hq => of_decide_eq_true (List.all_eq_true.mp h4 q hq))⟩
              · walk_at "go"
                exact ⟨_, _, _, _, cs, rfl, b10, hR10, by omega, hcs10⟩
          · walk_at "go"
            exact ⟨_, _, _, _, cs, rfl, b10, hR10, by omega, hcs10⟩
        · walk_at "go"
          exact ⟨_, _, _, _, cs, rfl, b10, hR10, by omega, hcs10⟩
      · rintro σ H5 ⟨v6, v7, v8, v9, cs, rfl, b5, hR5, lcs, hcs⟩
        have hG5 := b5 G _ hG4 nGR
        have hN5 := b5 N _ (s34 _ _ hN3) nNR
        have p5 : PoolAt H5 p := by
          obtain ⟨ns, e2, o⟩ := p4
          exact ⟨ns, b5 _ _ e2 nRp.symm, o⟩
        have b05 : ∀ b o, H b = some o → b ≠ p → H5 b = some o := fun b o e2 n => b5 _ _ (s34 _ _ (b03 _ _ e2 n)) (ne_of_none e2 hR)
        walk_at "go"
        refine x_dict (.inl hG5) fun D hD0 => ?_
        have s56 : L2.Same H5 (upd H5 D (.dK (strK V.int wl))) := same_new hD0
        have hD6 : (upd H5 D (.dK (strK V.int wl))) D = some (.dK (strK V.int wl)) := upd_same
        have nDR : D ≠ R := (ne_of_none hR5 hD0).symm
        have nDp : D ≠ p := p5.ne hD0
        have nDN : D ≠ N := (ne_of_none hN5 hD0).symm
        have p6 : PoolAt (upd H5 D (.dK (strK V.int wl))) p := p5.same s56
        generalize upd H5 D (.dK (strK V.int wl)) = H6 at s56 hD6 p6 ⊢
        walk_at "go"
        refine ⟨p, 8, rfl, p6, by decide, by decide, fun H7 ww b7 p7 nww => ?_⟩
        have hD7 := b7 _ _ hD6 nDp
        have hN7 := b7 _ _ (s56 _ _ hN5) nNp
        have hR7 := b7 _ _ (s56 _ _ hR5) nRp
        walk_at "go"
        refine ⟨.ref D, rfl, D, rfl, .inl ⟨_, .inl hD7⟩, .str z, rfl, ?_⟩
        refine ⟨_, Sum.inr z, V.int x, hD7, rfl, by rw [strK_look, hx]; rfl, ?_⟩
        rw [strK_del]
        have hD8 : (upd H7 D (.dK (strK V.int (delL wl z)))) D = some (.dK (strK V.int (delL wl z))) := upd_same
        have hN8 : (upd H7 D (.dK (strK V.int (delL wl z)))) N = some (.lst (strsV (wl.map (·.1)))) := by rw [upd_ne nDN.symm]; exact hN7
        have hR8 : (upd H7 D (.dK (strK V.int (delL wl z)))) R = some (.lst (cs.map V.ref)) := by rw [upd_ne nDR.symm]; exact hR7
        have p8 : PoolAt (upd H7 D (.dK (strK V.int (delL wl z)))) p := by
          obtain ⟨ns, e2, o⟩ := p7
          exact ⟨ns, by rw [upd_ne nDp.symm]; exact e2, o⟩
        have b8 : ∀ b o, H5 b = some o → b ≠ p → (upd H7 D (.dK (strK V.int (delL wl z)))) b = some o := fun b o e2 n => by
          rw [upd_ne (ne_of_none e2 hD0)]
          exact b7 _ _ (s56 _ _ e2) n
        generalize upd H7 D (.dK (strK V.int (delL wl z))) = H8 at hD8 hN8 hR8 p8 b8 ⊢
        walk_at "go"
        refine lpR (fun j σ H' => ∃ (z' : Str) (v11 : Option V), σ = [some (.ref p), some (.ref G), some (.int e), some (.ref R), some (.ref N), some (.str z), some (.int x), some (.ref D), v8, v9, some (.str z'), v11, none] ∧ H' = H8 ∧ NameS z' ∧ (z' ∉ wl.map (·.1) ∨ ∀ t < j, unS t ∈ wl.map (·.1))) ?_ ?_ ?_ ?_
        · rw [List.length_map, List.length_map]
          omega
        · exact ⟨ww, _, rfl, rfl, nww, .inr fun t ht => absurd ht (by omega)⟩
        · rintro j σ H' hj ⟨z', v11, rfl, rfl, hz', hor⟩
          rw [List.length_map, List.length_map] at hj
          walk_at "go"
          refine x_inL (ws := wl.map (·.1)) (SqL.of hN8) ?_
          walk_at "go"
          refine x_dec (fun hin => ?_) (fun hin => ?_)
          · have hall : ∀ t < j, unS t ∈ wl.map (·.1) := hor.resolve_left fun e => e hin
            walk_at "go"
            refine x_strI (Nat.lt_of_le_of_lt (Nat.log2_le_self _) (by omega)) ?_
            refine x_addS (i := ("u" : Str)) (j := Str.ofString (toString ((j : Nat) : Int))) (sz_le ?_) ?_
            · have := (unS_name (t := j) (by omega)).len
              unfold unS at this
              rw [str_len, tl_app, List.length_append, ← str_len, ← str_len] at this
              omega
            walk_at "go"
            refine ⟨unS j, _, rfl, rfl, unS_name (by omega), ?_⟩
            by_cases e : unS j ∈ wl.map (·.1)
            · refine .inr fun t ht => ?_
              by_cases et : t = j
              · rw [et]; exact e
              · exact hall t (by omega)
            · exact .inl e
          · walk_at "go"
            exact ⟨z', _, rfl, rfl, hz', .inl hin⟩
        · rintro σ H' ⟨z', v11, rfl, rfl, hz', hor⟩
          have hnot : z' ∉ wl.map (·.1) := by
            rcases hor with h | h
            · exact h
            · exfalso
              have := all_un (n := wl.length + 1) fun t ht => h t (by rw [List.length_map, List.length_map]; omega)
              rw [List.length_map] at this
              omega
          obtain ⟨gw, ne⟩ := g.moved hx hz' hnot
          walk_at "go"
          refine x_putL (l := delL wl z) (x := x) hD8 (by have : (delL wl z).length ≤ wl.length := List.length_filter_le _ _; omega) rfl ?_
          walk_at "go"
          have lcs : cs.length ≤ 2 := lcs
          refine ⟨sz_le (by simp), fun U hU => ⟨R, U, cs.map V.ref, _, rfl, rfl, ?_, upd_same, sz_le (by rw [List.length_map]; show cs.length + 1 ≤ 10000; omega), fun S hS => ?_⟩⟩
          · have nRU : R ≠ U := fun q => by rw [← q, upd_ne nDR.symm, hR8] at hU; cases hU
            rw [upd_ne nRU, upd_ne nDR.symm]
            exact hR8
          have nDU : D ≠ U := fun q => by rw [← q, upd_same] at hU; cases hU
          have nDS : D ≠ S := fun q => by rw [← q, upd_ne nDU, upd_same] at hS; cases hS
          have hU0 : H' U = none := by rw [upd_ne nDU.symm] at hU; exact hU
          have hS0 : H' S = none := by
            rw [upd_ne (fun q => by rw [q, upd_same] at hS; cases hS), upd_ne nDS.symm] at hS
            exact hS
          have nSp : S ≠ p := p8.ne hS0
          have nUp : U ≠ p := p8.ne hU0
          have nHD : ∀ {b : Addr} {o : HO}, H5 b = some o → b ≠ D := fun h => ne_of_none h hD0
          have fin : ∀ b o, H5 b = some o → b ≠ p → (upd (upd (upd H' D (.dK (strK V.int (putL (delL wl z) z' x)))) U (.lst [.ref D])) S (.lst (cs.map V.ref ++ [.ref D]))) b = some o := fun b o e2 n => by
            have e3 := b8 b o e2 n
            rw [upd_ne (ne_of_none e3 hS0), upd_ne (ne_of_none e3 hU0), upd_ne (nHD e2)]
            exact e3
          refine k _ S (cs ++ [D]) (fun b o e2 n => fin b o (b05 b o e2 n) n) ?_ ?_ ?_ ?_ fun c hc => ?_
          · obtain ⟨ns, e2, o⟩ := p8
            exact ⟨ns, by rw [upd_ne nSp.symm, upd_ne nUp.symm, upd_ne nDp.symm]; exact e2, o⟩
          · cases e2 : H S with
            | none => rfl
            | some o => have := b8 S o (b05 S o e2 nSp) nSp; rw [hS0] at this; cases this
          · rw [upd_same, List.map_append]
            rfl
          · rw [List.length_append]
            exact Nat.succ_le_succ lcs
          · rcases List.mem_append.mp hc with hc | hc
            · obtain ⟨l2, h1, h2⟩ := hcs c hc
              have ncp : c ≠ p := fun q => by
                obtain ⟨ns, e2, _⟩ := p5
                rw [q, e2] at h1
                cases h1
              exact ⟨l2, fin c _ h1 ncp, h2⟩
            · rw [List.mem_singleton.mp hc]
              exact ⟨_, by rw [upd_ne nDS, upd_ne nDU]; exact upd_same, gw, ne⟩
end
section
variable {P : Program} {w : World} {K : PySem.W.Frag} {mg : Str → Option Value} {base : Heap} {CW : Addr}
theorem ok_Work_row {f : Addr} {fd : FuncData} (F : Fun K "row" "Work.row" s_Work_row f fd) (K_Work : Cls K CW) (N1 : NoAttr K CW "table") (Z_str : mg "str" = none) (Z_isinstance : mg "isinstance" = none) : FnOk P w K mg base CX0 1 f fd ["self", "stand"] (spRow CW) := by
  refine F.ok sc_Work_row (fun vs H Q E h => ?_) (fun cdv A outer s H vs Q E hr h => ?_)
  · obtain ⟨_, _, _, _, _, _, rfl, _⟩ := h
    rfl
  · obtain ⟨a, h, st, z, l, x, rfl, wa, hz, q⟩ := h
    obtain ⟨dx, t, n, e, h1, hT, _, _⟩ := wa.ex
    obtain ⟨m, b, hm, hb, hx⟩ := hT.at hz
    have hu := hu_of hr
    refine ⟨_, (pss_cons (ps_if (PW.pt (pw_or (pt_not (pt_val (pe_callB call_isi (by rfl) Z_isinstance (by decide +kernel) (pa_cons (pv 1) (pa_cons (pe_bltn (v := .ty "str") (by rfl) Z_str (by decide +kernel) rfl) pa_nil))))) (pw_or1 (pt_cmp (pc_dnotin hu (pv 1) (pe_fld (pv 0) rfl))))))
      (pss_one ps_never)
      pss_nil)
      (pss_one (ps_ret (pe_dget hu (pe_fld (pv 0) rfl) (pv 1) (fun _ _ => rfl))))), ?_⟩
    walk_at "go"
    refine x_isiStr (.str _) ?_
    walk_at "go"
    refine x_nT ?_
    walk_at "go"
    refine x_fld K_Work N1 h1 wkF_table ?_
    walk_at "go"
    refine x_ninD (l := m) hm ?_
    rw [hb]
    refine ⟨false, rfl, x_F ?_⟩
    walk_at "go"
    refine x_fld K_Work N1 h1 wkF_table ?_
    walk_at "go"
    refine x_getL hm hb ?_
    exact q b hx
theorem ok_Work_kind {f : Addr} {fd : FuncData} (F : Fun K "kind" "Work.kind" s_Work_kind f fd) (K_Work : Cls K CW) (T_Work_row : Met P w K mg base CW 1 "row" ["self", "stand"] (spRow CW)) : FnOk P w K mg base CX0 2 f fd ["self", "stand"] (spKind CW) := by
  refine F.ok sc_Work_kind (fun vs H Q E h => ?_) (fun cdv A outer s H vs Q E hr h => ?_)
  · obtain ⟨_, _, _, _, _, _, rfl, _⟩ := h
    rfl
  · obtain ⟨a, h, st, z, l, x, rfl, wa, hz, q⟩ := h
    obtain ⟨dx, t, n, e, h1, _⟩ := id wa.ex
    refine ⟨_, (pss_one (ps_ret (pe_ix ix_tup (pe_mt T_Work_row K_Work (hr.mono (by decide)) (pv 0) (pa_cons (pv 1) pa_nil)) pe_int (fun _ _ => rfl)))), ?_⟩
    walk_at "go"
    refine x_mti h1 (wkF_none (by decide +kernel) (by decide +kernel) (by decide +kernel) (by decide +kernel) (by decide +kernel) (by decide +kernel)) ?_
    walk_at "go"
    refine ⟨a, h, st, z, l, x, rfl, wa, hz, fun b hb => ?_⟩
    obtain ⟨xs, hx1, hx2⟩ := sd_tup hb
    walk_at "go"
    refine x_ixt 0 (SqT.of hx1) rfl hx2 ?_
    exact q
theorem ok_Work_steps {f : Addr} {fd : FuncData} (F : Fun K "steps" "Work.steps" s_Work_steps f fd) (K_Work : Cls K CW) (Z_len : mg "len" = none) (Z_sorted : mg "sorted" = none) (T_Work_row : Met P w K mg base CW 1 "row" ["self", "stand"] (spRow CW)) : FnOk P w K mg base CX0 2 f fd ["self", "stand"] (spSteps CW) := by
  refine F.ok sc_Work_steps (fun vs H Q E h => ?_) (fun cdv A outer s H vs Q E hr h => ?_)
  · obtain ⟨_, _, _, _, _, _, rfl, _⟩ := h
    rfl
  · obtain ⟨a, h, st, z, l, x, rfl, wa, hz, hg, hso, q⟩ := h
    obtain ⟨dx, t, n, e, h1, _⟩ := id wa.ex
    refine ⟨_, (pss_cons (ps_set (i := 2) sc_Work_steps.nd rfl (Or.inl rfl) (pe_mt T_Work_row K_Work (hr.mono (by decide)) (pv 0) (pa_cons (pv 1) pa_nil)))
      (pss_cons (ps_if (pt_cmpR op_eq (pe_ix ix_tup (pv 2) pe_int (fun _ _ => rfl)) pe_str (nomark _))
      (pss_one (ps_ret (pe_lst pa_nil)))
      pss_nil)
      (pss_one (ps_ret (pe_callB (call_sortedDA rfl) (by rfl) Z_sorted (by decide +kernel) (pa_cons (pe_ix ix_tup (pv 2) (pe_op op_sub (pe_callB call_lenA (by rfl) Z_len (by decide +kernel) (pa_cons (pv 2) pa_nil)) pe_int) (fun _ _ => rfl)) pa_nil)))))), ?_⟩
    walk_at "go"
    refine x_mti h1 (wkF_none (by decide +kernel) (by decide +kernel) (by decide +kernel) (by decide +kernel) (by decide +kernel) (by decide +kernel)) ?_
    walk_at "go"
    refine ⟨a, h, st, z, l, x, rfl, wa, hz, fun b hb => ?_⟩
    walk_at "go"
    cases x with
    | fin =>
      have hb1 : H b = some (.tup [.str "end"]) := hb
      refine x_ixt 0 (SqT.of hb1) rfl rfl ?_
      walk_at "go"
      refine x_yes rfl ?_
      walk_at "go"
      refine ⟨by decide, fun p hp => ?_⟩
      exact q _ p (same_new hp) hp upd_same
    | chance l2 =>
      obtain ⟨d2, hb1, hD⟩ := hb
      obtain ⟨g1, g2, g3, g4⟩ := hg
      obtain ⟨m, hd, hk, _⟩ := hD.ex
      have ek : (strK V.ref m).map (·.1) = (m.map (·.1)).map Sum.inr := by rw [List.map_map, List.map_map]; rfl
      rw [hk] at ek
      refine x_ixt 0 (SqT.of hb1) rfl rfl ?_
      walk_at "go"
      refine x_no (by decide +kernel) ?_
      walk_at "go"
      refine x_lenT (SqT.of hb1) ?_
      walk_at "go"
      refine x_ixt 1 (SqT.of hb1) rfl rfl ?_
      walk_at "go"
      refine ⟨d2, _, l2.map (·.1), rfl, .inl hd, ek, by rw [List.length_map]; omega, fun ys p hperm hsort hp => ?_⟩
      have ey : ys = l2.map (·.1) := sorted_one hsort hso hperm
      subst ey
      exact q _ p (same_new hp) hp upd_same
    | hand k2 l2 =>
      obtain ⟨d2, hb1, hd⟩ := hb
      obtain ⟨_, _, g1, g2, g3, g4⟩ := hg
      have ek : (strK V.str l2).map (·.1) = (l2.map (·.1)).map Sum.inr := by rw [List.map_map, List.map_map]; rfl
      refine x_ixt 0 (SqT.of hb1) rfl rfl ?_
      walk_at "go"
      refine x_no (by decide +kernel) ?_
      walk_at "go"
      refine x_lenT (SqT.of hb1) ?_
      walk_at "go"
      refine x_ixt 2 (SqT.of hb1) rfl rfl ?_
      walk_at "go"
      refine ⟨d2, _, l2.map (·.1), rfl, .inl hd, ek, by rw [List.length_map]; omega, fun ys p hperm hsort hp => ?_⟩
      have ey : ys = l2.map (·.1) := sorted_one hsort hso hperm
      subst ey
      exact q _ p (same_new hp) hp upd_same
theorem ok_Work_to {f : Addr} {fd : FuncData} (F : Fun K "to" "Work.to" s_Work_to f fd) (K_Work : Cls K CW) (Z_len : mg "len" = none) (Z_str : mg "str" = none) (Z_isinstance : mg "isinstance" = none) (T_Work_row : Met P w K mg base CW 1 "row" ["self", "stand"] (spRow CW)) : FnOk P w K mg base CX0 2 f fd ["self", "stand", "step"] (spTo CW) := by
  refine F.ok sc_Work_to (fun vs H Q E h => ?_) (fun cdv A outer s H vs Q E hr h => ?_)
  · obtain ⟨_, _, _, _, _, _, _, _, rfl, _⟩ := h
    rfl
  · obtain ⟨a, h, st, z, s1, t1, l, x, rfl, wa, hz, hto, q⟩ := h
    obtain ⟨dx, t, n, e, h1, _⟩ := id wa.ex
    have hu := hu_of hr
    refine ⟨_, (pss_cons (ps_set (i := 3) sc_Work_to.nd rfl (Or.inl rfl) (pe_mt T_Work_row K_Work (hr.mono (by decide)) (pv 0) (pa_cons (pv 1) pa_nil)))
      (pss_cons (ps_if (PW.pt (pw_or (pt_cmpR op_eq (pe_ix ix_tup (pv 3) pe_int (fun _ _ => rfl)) pe_str (nomark _)) (pw_or (pt_not (pt_val (pe_callB call_isi (by rfl) Z_isinstance (by decide +kernel) (pa_cons (pv 2) (pa_cons (pe_bltn (v := .ty "str") (by rfl) Z_str (by decide +kernel) rfl) pa_nil))))) (pw_or1 (pt_cmp (pc_dnotin hu (pv 2) (pe_ix ix_tup (pv 3) (pe_op op_sub (pe_callB call_lenA (by rfl) Z_len (by decide +kernel) (pa_cons (pv 3) pa_nil)) pe_int) (fun _ _ => rfl))))))))
      (pss_one ps_never)
      pss_nil)
      (pss_cons (ps_if (pt_cmpR op_eq (pe_ix ix_tup (pv 3) pe_int (fun _ _ => rfl)) pe_str (nomark _))
      (pss_one (ps_ret (pe_dget hu (pe_ix ix_tup (pv 3) pe_int (fun _ _ => rfl)) (pv 2) (fun _ _ => rfl))))
      pss_nil)
      (pss_one (ps_ret (pe_ix ix_tup (pe_dget hu (pe_ix ix_tup (pv 3) pe_int (fun _ _ => rfl)) (pv 2) (fun _ _ => rfl)) pe_int (fun _ _ => rfl))))))), ?_⟩
    walk_at "go"
    refine x_mti h1 (wkF_none (by decide +kernel) (by decide +kernel) (by decide +kernel) (by decide +kernel) (by decide +kernel) (by decide +kernel)) ?_
    walk_at "go"
    refine ⟨a, h, st, z, l, x, rfl, wa, hz, fun b hb => ?_⟩
    walk_at "go"
    cases x with
    | fin => cases hto
    | chance l2 =>
      obtain ⟨d2, hb1, hD⟩ := hb
      have hto1 : (l2.lookup s1).map (·.1) = some t1 := hto
      obtain ⟨v, hv, hv2⟩ : ∃ v, l2.lookup s1 = some v ∧ v.1 = t1 := by
        cases e2 : l2.lookup s1 with
        | none => rw [e2] at hto1; cases hto1
        | some v => rw [e2] at hto1; exact ⟨v, rfl, Option.some.inj hto1⟩
      obtain ⟨m, c, hd, hc, hp⟩ := hD.at hv
      have hp1 : H c = some (.tup [.str v.1, .int v.2]) := hp
      refine x_ixt 0 (SqT.of hb1) rfl rfl ?_
      walk_at "go"
      refine x_no (by decide +kernel) ?_
      walk_at "go"
      refine x_isiStr (.str _) ?_
      walk_at "go"
      refine x_nT ?_
      walk_at "go"
      refine x_lenT (SqT.of hb1) ?_
      walk_at "go"
      refine x_ixt 1 (SqT.of hb1) rfl rfl ?_
      walk_at "go"
      refine x_ninD (l := m) (.inl hd) ?_
      rw [hc]
      refine ⟨false, rfl, x_F ?_⟩
      walk_at "go"
      refine x_ixt 0 (SqT.of hb1) rfl rfl ?_
      walk_at "go"
      refine x_no (by decide +kernel) ?_
      walk_at "go"
      refine x_ixt 1 (SqT.of hb1) rfl rfl ?_
      walk_at "go"
      refine x_getL (l := m) (.inl hd) hc ?_
      walk_at "go"
      refine x_ixt 0 (SqT.of hp1) rfl rfl ?_
      rw [hv2]
      exact q
    | hand k2 l2 =>
      obtain ⟨d2, hb1, hd⟩ := hb
      have hto1 : l2.lookup s1 = some t1 := hto
      refine x_ixt 0 (SqT.of hb1) rfl rfl ?_
      walk_at "go"
      refine x_no (by decide +kernel) ?_
      walk_at "go"
      refine x_isiStr (.str _) ?_
      walk_at "go"
      refine x_nT ?_
      walk_at "go"
      refine x_lenT (SqT.of hb1) ?_
      walk_at "go"
      refine x_ixt 2 (SqT.of hb1) rfl rfl ?_
      walk_at "go"
      refine x_ninD (l := l2) (.inl hd) ?_
      rw [hto1]
      refine ⟨false, rfl, x_F ?_⟩
      walk_at "go"
      refine x_ixt 0 (SqT.of hb1) rfl rfl ?_
      walk_at "go"
      refine x_yes rfl ?_
      walk_at "go"
      refine x_ixt 2 (SqT.of hb1) rfl rfl ?_
      walk_at "go"
      refine x_getL (l := l2) (.inl hd) hto1 ?_
      exact q
end
/-! ### a work's fields, names as data -/
theorem wkF_names {h : Int} {st : Str} {t n e : Addr} {r : Bool} : (wkF h st t n e r).lookup ("names" : Str) = some (.ref n) := by
  unfold wkF
  rw [lookup_putF, if_neg (by decide +kernel), lookup_putF, if_neg (by decide +kernel), lookup_putF, if_pos rfl]
theorem wkF_ends {h : Int} {st : Str} {t n e : Addr} {r : Bool} : (wkF h st t n e r).lookup ("ends" : Str) = some (.ref e) := by
  unfold wkF
  rw [lookup_putF, if_neg (by decide +kernel), lookup_putF, if_pos rfl]
theorem NameS.ok {z : Str} (h : NameS z) : PyData.strOk z = true := by
  obtain ⟨d, r, e, hd, _, hr⟩ := h
  have key : ∀ c ∈ z.cps.toList, c < 0x110000 := by
    rw [e]
    intro c hc
    rcases List.mem_cons.mp hc with rfl | hc
    · have := hd.2; omega
    · rcases hr c hc with q | q <;> omega
  unfold PyData.strOk
  rw [← Array.all_toList]
  exact List.all_eq_true.mpr fun c hc => decide_eq_true (key c hc)
/-! ### lists of plain values, alike -/
def dat : V → PyData
  | .bl b => .bool b
  | .int i => .int i
  | .str z => .str z
  | _ => .none
def isDat : V → Bool
  | .non => true
  | .bl _ => true
  | .int _ => true
  | .str z => PyData.strOk z
  | _ => false
theorem dp_all {K : PySem.W.Frag} {H : Hp} : ∀ {xs : List V}, (∀ x ∈ xs, isDat x = true) → DpAll K H xs (xs.map dat)
  | [], _ => .nil
  | x :: r, h => by
    refine .cons ?_ (dp_all fun y hy => h y (List.mem_cons_of_mem _ hy))
    have hx := h x List.mem_cons_self
    cases x with
    | non => exact .non
    | bl b => exact .bl b
    | int i => exact .int i
    | str z => exact .str z
    | _ => cases hx
theorem dat_lay {x : V} (h : isDat x = true) : (dat x).canLay0 = true ∧ (dat x).depth = 0 := by
  cases x with
  | str z => exact ⟨h, rfl⟩
  | _ => exact ⟨rfl, rfl⟩
theorem dats_lay : ∀ xs : List V, (∀ x ∈ xs, isDat x = true) → PyData.canLayAll0 (xs.map dat) = true ∧ PyData.depthAll (xs.map dat) = 0
  | [], _ => ⟨rfl, rfl⟩
  | x :: r, h => by
    obtain ⟨h1, h2⟩ := dats_lay r fun y hy => h y (List.mem_cons_of_mem _ hy)
    obtain ⟨h3, h4⟩ := dat_lay (h x List.mem_cons_self)
    rw [List.map_cons]
    simp only [PyData.canLayAll0, PyData.depthAll, h1, h2, h3, h4]
    exact ⟨rfl, rfl⟩
theorem dats_shaped {xs : List V} (h : ∀ x ∈ xs, isDat x = true) : SeqAt.shaped (.list (xs.map dat)) = true := by
  obtain ⟨h1, h2⟩ := dats_lay xs h
  unfold SeqAt.shaped
  have e1 : PyData.canLay0 (.list (xs.map dat)) = true := h1
  have e2 : PyData.depth (.list (xs.map dat)) ≤ 64 := by
    simp only [PyData.depth, h2]
    decide
  rw [e1, decide_eq_true e2]
  rfl
theorem dats_eqv {xs : List V} (h : ∀ x ∈ xs, isDat x = true) : PyData.eqv (.list (xs.map dat)) (.list (xs.map dat)) = true := SeqAt.eqv_refl _ (dats_lay xs h).1
theorem x_neSame {K : PySem.W.Frag} {H : Hp} {Q : VK} {a b : Addr} {xs : List V} (h1 : SqL K H a xs) (h2 : SqL K H b xs) (hd : ∀ x ∈ xs, isDat x = true) (q : Q (.bl false) H) : rNeD K (.ref a) (.ref b) H Q :=
  ⟨_, _, .lst h1 (dp_all hd), .lst h2 (dp_all hd), dats_shaped hd, dats_shaped hd, by rw [dats_eqv hd]; exact q⟩
theorem x_eqSame {K : PySem.W.Frag} {H : Hp} {Q : VK} {a b : Addr} {xs : List V} (h1 : SqL K H a xs) (h2 : SqL K H b xs) (hd : ∀ x ∈ xs, isDat x = true) (q : Q (.bl true) H) : rEqD K (.ref a) (.ref b) H Q :=
  ⟨_, _, .lst h1 (dp_all hd), .lst h2 (dp_all hd), dats_shaped hd, dats_shaped hd, by rw [dats_eqv hd]; exact q⟩
/-! ### k09: the law -/
/-- H6 without the dicts (and lists) that were made between H3 and H4 -/
def hid (H3 H4 H6 : Hp) : Hp := fun b => match H3 b, H4 b with
  | none, some (.tup _) => H6 b
  | none, some _ => none
  | _, _ => H6 b
theorem hid_same {H3 H4 H6 : Hp} : L2.Same (hid H3 H4 H6) H6 := fun b o e => by
  unfold hid at e
  split at e
  · exact e
  · cases e
  · exact e
theorem hid_old {H3 H4 H6 : Hp} {b : Addr} {o : HO} (h : H3 b = some o) : hid H3 H4 H6 b = H6 b := by
  unfold hid
  rw [h]
theorem hid_new {H3 H4 H6 : Hp} {b : Addr} (h : H4 b = none) : hid H3 H4 H6 b = H6 b := by
  unfold hid
  rw [h]
  cases H3 b <;> rfl
theorem hid_tup {H3 H4 H6 : Hp} {b : Addr} {xs : List V} (h : H4 b = some (.tup xs)) : hid H3 H4 H6 b = H6 b := by
  unfold hid
  rw [h]
  cases H3 b <;> rfl
/-- what was made between H3 and H4 is new since the heap without it -/
theorem hid_nd {H3 H4 H6 : Hp} (s34 : L2.Same H3 H4) (s46 : ∀ b o, H4 b = some o → H6 b = some o) : L2.Same (nd H3 H4) (nd (hid H3 H4 H6) H6) := fun b o e => by
  obtain ⟨h, e4⟩ := nd_some e
  refine nd_is ?_ (s46 _ _ e4)
  rcases h with h | ⟨xs, h⟩
  · cases o with
    | tup xs => exact .inr ⟨xs, by rw [hid_tup e4]; exact s46 _ _ e4⟩
    | _ => left; unfold hid; rw [h, e4]
  · have h4 := s34 _ _ h
    exact .inr ⟨xs, by rw [hid_old h]; exact s46 _ _ h4⟩
/-- a work made behind H4 does not lean on what was made between H3 and H4 -/
theorem hid_work {H3 H4 H5 H6 : Hp} {s : Addr} (hs : H4 s = none) (k5 : ∀ b, H5 b = none → H4 b = none) (t5 : ∀ b xs, H5 b = some (.tup xs) → H4 b = none ∨ H4 b = some (.tup xs)) : L2.Same (ndx H5 s H6) (hid H3 H4 H6) := fun b o e => by
  by_cases q : b = s
  · subst q
    rw [ndx_at] at e
    rw [hid_new hs]
    exact e
  · rw [ndx_ne q] at e
    obtain ⟨h, e6⟩ := nd_some e
    rcases h with h | ⟨xs, h⟩
    · rw [hid_new (k5 b h)]; exact e6
    · rcases t5 b xs h with h4 | h4
      · rw [hid_new h4]; exact e6
      · rw [hid_tup h4]; exact e6
/-- a work that is read stands while its stands' own table is held -/
theorem work_held {C : Addr} {H : Hp} {a D : Addr} {h : Int} {st : Str} {lw : List (Str × Sd)} {o : Obj} {m : List (Str × Addr)} (hd : H D = some (.dK (strK V.ref m))) (hm : ∀ z b, (z, b) ∈ m → ∃ y, SdAt H b y) (wa : WorkAt C H a h st lw) (g : GoodT h lw) :
    WorkRd C (upd H D (.frz o (.dK (strK V.ref m)))) a h st lw := by
  obtain ⟨dx, t, n, e, h1, h2, h3, h4⟩ := wa.ex
  obtain ⟨m1, t1, t2, t3⟩ := h2.ex
  have sw : L2.Same (wo H D) (upd H D (.frz o (.dK (strK V.ref m)))) := same_upd wo_same wo_at
  refine ⟨dx, t, n, e, by rw [upd_ne (ne_of h1 hd (by intro z; cases z))]; exact h1, ⟨m1, ?_, t2, fun z b hzb => ?_⟩, by rw [upd_ne (ne_of h3 hd (by intro z; cases z))]; exact h3, by rw [upd_ne (ne_of h4 hd (by intro z; cases z))]; exact h4⟩
  · by_cases ht : t = D
    · subst ht
      rw [hd] at t1
      have e1 := strK_inj (f := V.ref) (fun a b e => by cases e; rfl) (HO.dK.inj (Option.some.inj t1))
      subst e1
      exact .inr ⟨_, upd_same⟩
    · exact .inl (by rw [upd_ne ht]; exact t1)
  · obtain ⟨x, hx, hs⟩ := t3 z b hzb
    exact ⟨x, hx, (sd_woT hd hm hs (g.sd z x hx)).same sw⟩
theorem sort_srt {x x' : Sd} (s : SdSort x x') : SrtSd x' := by
  cases x <;> cases x' <;> first | exact s.elim | rfl | skip
  · exact s.2
  · exact s.2.2
theorem sort_perm {x x' : Sd} (s : SdSort x x') : (stepsL x').Perm (stepsL x) := by
  cases x <;> cases x' <;> first | exact s.elim | exact List.Perm.refl _ | skip
  · exact s.1.map _
  · exact s.2.1.map _
theorem steps_le {h : Int} {ns : List Str} {x : Sd} (g : GoodSd h ns x) : (stepsL x).length ≤ 4 ∧ ∀ z ∈ stepsL x, NameS z := by
  cases x with
  | fin => exact ⟨by decide, fun z hz => by cases hz⟩
  | chance l =>
    refine ⟨by show (l.map _).length ≤ 4; rw [List.length_map]; exact g.2.2.1, fun z hz => ?_⟩
    obtain ⟨q, hq, rfl⟩ := List.mem_map.mp hz
    exact (g.2.2.2 q hq).1
  | hand k l =>
    refine ⟨by show (l.map _).length ≤ 4; rw [List.length_map]; exact g.2.2.2.2.1, fun z hz => ?_⟩
    obtain ⟨q, hq, rfl⟩ := List.mem_map.mp hz
    exact (g.2.2.2.2.2 q hq).1
theorem dats_shapedT {xs : List V} (h : ∀ x ∈ xs, isDat x = true) : SeqAt.shaped (.tuple (xs.map dat)) = true := by
  obtain ⟨h1, h2⟩ := dats_lay xs h
  unfold SeqAt.shaped
  have e1 : PyData.canLay0 (.tuple (xs.map dat)) = true := h1
  have e2 : PyData.depth (.tuple (xs.map dat)) ≤ 64 := by
    simp only [PyData.depth, h2]
    decide
  rw [e1, decide_eq_true e2]
  rfl
theorem x_neSameT {K : PySem.W.Frag} {H : Hp} {Q : VK} {a b : Addr} {xs : List V} (h1 : SqT K H a xs) (h2 : SqT K H b xs) (hd : ∀ x ∈ xs, isDat x = true) (q : Q (.bl false) H) : rNeD K (.ref a) (.ref b) H Q :=
  ⟨_, _, .tup h1 (dp_all hd), .tup h2 (dp_all hd), dats_shapedT hd, dats_shapedT hd, by rw [SeqAt.eqv_refl _ (SeqAt.canLay_of_shaped (dats_shapedT hd))]; exact q⟩
theorem names_dat {ws : List Str} (h : ∀ z ∈ ws, NameS z) : ∀ x ∈ strsV ws, isDat x = true := fun x hx => by
  obtain ⟨z, hz, rfl⟩ := List.mem_map.mp hx
  exact (h z hz).ok
theorem ndx_same {H H' : Hp} {s : Addr} : L2.Same (ndx H s H') H' := fun b o e => by
  by_cases q : b = s
  · subst q
    rw [ndx_at] at e
    exact e
  · rw [ndx_ne q] at e
    exact nd_same _ _ e
theorem eqT_mem {l l' : List (Str × Sd)} (n : NdT l) (n' : NdT l') (h : eqT l l' = true) {z : Str} (hz : z ∈ l.map (·.1)) : z ∈ l'.map (·.1) := by
  obtain ⟨x, hx⟩ := lookup_isSome hz
  have := (eqT_iff n n').mp h z
  rw [hx] at this
  cases e : l'.lookup z with
  | none => rw [e] at this; exact this.elim
  | some y => exact List.mem_map_of_mem (f := (·.1)) (lookup_mem e)
theorem x_eqWk {CW : Addr} {H : Hp} {Q : VK} {a b : Addr} {h h' : Int} {st st' : Str} {l l' : List (Str × Sd)} (w1 : WorkAt CW H a h st l) (w2 : WorkAt CW H b h' st' l') (g1 : GoodT h l) (g2 : GoodT h' l') {r : Bool} (hr : (decide (h = h') && (decide (st = st') && eqT l l')) = r) (q : Q (.bl r) H) : Ox.rEqOwn CW (spWorkEq CW) (.ref a) (.ref b) H Q := by
  obtain ⟨_, _, _, _, h1, _⟩ := id w1.ex
  obtain ⟨_, _, _, _, h2, _⟩ := id w2.ex
  exact x_eqOwn h1 h2 ⟨a, b, h, h', st, st', l, l', rfl, w1, w2, g1, g2, _, rfl, by rw [hr]; exact q⟩
theorem x_eqWi {C : Addr} {H : Hp} {Q : VK} {a b : Addr} {e e' : Int} {l l' : List (Str × Int)} (w1 : WishAt C H a l e) (w2 : WishAt C H b l' e') (g1 : (l.map (·.1)).Nodup) (g2 : (l'.map (·.1)).Nodup) {r : Bool} (hr : (decide (e = e') && eqA (· == ·) l l') = r) (q : Q (.bl r) H) : Ox.rEqOwn C (spWishEqB C) (.ref a) (.ref b) H Q := by
  obtain ⟨_, _, _, h1, _⟩ := id w1.ex
  obtain ⟨_, _, _, h2, _⟩ := id w2.ex
  exact x_eqOwn h1 h2 ⟨a, b, e, e', l, l', rfl, w1, w2, g1, g2, _, rfl, by rw [hr]; exact q⟩
theorem WishAt.but {C : Addr} {H H' : Hp} {a p : Addr} {l : List (Str × Int)} {e : Int} (h : WishAt C H a l e) (hp : PoolAt H p) (b : But p H H') : WishAt C H' a l e := by
  obtain ⟨dx, t, l', h1, h2, h3⟩ := h.ex
  obtain ⟨ns, e0, _⟩ := hp
  exact ⟨dx, t, l', b _ _ h1 (ne_of h1 e0 (by intro z; cases z)), b _ _ h2 (ne_of h2 e0 (by intro z; cases z)), h3⟩
theorem eqA_ref {l l' : List (Str × Int)} (p : l'.Perm l) (nd : (l.map (·.1)).Nodup) : eqA (· == ·) l l' = true := eqA_perm (fun x => beq_self_eq_true x) p nd
theorem eqA_ref' {l l' : List (Str × Int)} (p : l'.Perm l) (nd : (l.map (·.1)).Nodup) : eqA (· == ·) l' l = true := eqA_perm (fun x => beq_self_eq_true x) p.symm (((p.map (·.1)).nodup_iff).mpr nd)
def spLaw (K : PySem.W.Frag) : Sp := fun vs H Q _ => ∃ (a : Addr) (ns : List Int), vs = [.ref a] ∧ SqL K H a (intsV ns) ∧ ns.length ≤ 63 ∧ ∀ H', Q (.bl true) H'
section
variable {P : Program} {w : World} {K : PySem.W.Frag} {mg : Str → Option Value} {base : Heap} {CW C : Addr}
theorem ok_law {f : Addr} {fd : FuncData} (F : Fun K "law" "law" s_law f fd) (K_Work : Cls K CW) (K_Wish : Cls K C) (N1 : NoAttr K CW "start") (N2 : NoAttr K CW "names") (Z_sorted : mg "sorted" = none) (Z_tuple : mg "tuple" = none) (Z_dict : mg "dict" = none)
    (C_pool : Cal P w K mg base 1 "_law_pool" ["_law_script"] (spPool K)) (C_l_world : Cal P w K mg base 5 "_law_world" ["_law_pool_here", "_law_most", "_law_ringless"] spWorld) (C_l_other : Cal P w K mg base 3 "_law_other" ["_law_pool_here", "_law_world_here"] spOther) (C_l_copy : Cal P w K mg base 1 "_law_copy" ["_law_stands_here"] spCopyL)
    (M_Work : Mkc P w K mg base CW 5 "Work" ["self", "hands", "start", "stands"] (spWorkInit CW)) (C_l_spoil_told : Cal P w K mg base 1 "_law_spoil_told" ["_law_stands_here"] spSpoil) (P_Work_stands : Prp P w K mg base CW 2 "stands" (spStandsP CW)) (T_Work_steps : Met P w K mg base CW 2 "steps" ["self", "stand"] (spSteps CW))
    (C_l_steps : Cal P w K mg base 1 "_law_steps" ["_law_stands_here", "_law_name"] spStepsL) (C_l_turned : Cal P w K mg base 1 "_law_turned" ["_law_stands_here"] spTurned) (T_Work_eq : Met P w K mg base CW 1 "__eq__" ["self", "other"] (spWorkEq CW)) (M_Wish : Mkc P w K mg base C 4 "Wish" ["self", "worths", "endless"] (spWishInit C))
    (P_Wish_worths : Prp P w K mg base C 1 "worths" (spWorths C)) (T_Wish_eq : Met P w K mg base C 1 "__eq__" ["self", "other"] (spWishEqB C)) (C_l_backwards : Cal P w K mg base 1 "_law_backwards" ["_law_wanted"] spBackL) (C_l_mirror : Cal P w K mg base 1 "_law_mirror" ["_law_wanted"] spMirrorL)
    (C_l_other_wishes : Cal P w K mg base 3 "_law_other_wishes" ["_law_pool_here", "_law_wanted", "_law_endless_here"] spOtherW) : FnOk P w K mg base CX0 8 f fd ["_law_script"] (spLaw K) := by
  refine F.ok sc_law (fun vs H Q E h => ?_) (fun cdv A outer s H vs Q E hr h => ?_)
  · obtain ⟨_, _, rfl, _⟩ := h
    rfl
  · obtain ⟨sa, ns, rfl, hS, hlen, k⟩ := h
    have hu := hu_of hr
    refine ⟨_, (pss_cons (ps_set (i := 1) sc_law.nd rfl (Or.inl rfl) (pe_cal C_pool (hr.mono (by decide)) (by rfl) (pa_cons (pv 0) pa_nil)))
      (pss_cons (ps_set (i := 2) sc_law.nd rfl (Or.inl rfl) (pe_cal C_l_world (hr.mono (by decide)) (by rfl) (pa_cons (pv 1) (pa_cons pe_int (pa_cons pe_bl pa_nil)))))
      (pss_cons (ps_set (i := 3) sc_law.nd rfl (Or.inl rfl) (pe_cal C_l_other (hr.mono (by decide)) (by rfl) (pa_cons (pv 1) (pa_cons (pv 2) pa_nil))))
      (pss_cons (ps_set (i := 4) sc_law.nd rfl (Or.inl rfl) (pe_cal C_l_copy (hr.mono (by decide)) (by rfl) (pa_cons (pe_ix ix_list (pv 2) pe_int (fun _ _ => rfl)) pa_nil)))
      (pss_cons (ps_set (i := 5) sc_law.nd rfl (Or.inl rfl) (pe_mk M_Work (hr.mono (by decide)) (by rfl) (pa_cons (pe_ix ix_list (pv 2) pe_int (fun _ _ => rfl)) (pa_cons (pe_ix ix_list (pv 2) pe_int (fun _ _ => rfl)) (pa_cons (pv 4) pa_nil)))))
      (pss_cons (ps_expr (pe_cal C_l_spoil_told (hr.mono (by decide)) (by rfl) (pa_cons (pv 4) pa_nil)))
      (pss_cons (ps_expr (pe_cal C_l_spoil_told (hr.mono (by decide)) (by rfl) (pa_cons (pe_prp P_Work_stands K_Work (hr.mono (by decide)) (pv 5)) pa_nil)))
      (pss_cons (ps_if (PW.pt (pw_or (pt_cmpR (op_neX (hu100 hr)) (pe_prp P_Work_stands K_Work (hr.mono (by decide)) (pv 5)) (pe_ix ix_list (pv 2) pe_int (fun _ _ => rfl)) (nomark _)) (pw_or (pt_cmpR (op_neD hr.units) (pe_fld (pv 5) rfl) (pe_callTy call_tupleA (by rfl) Z_tuple (by decide +kernel) (pa_cons (pe_callB (call_sortedDA rfl) (by rfl) Z_sorted (by decide +kernel) (pa_cons (pe_ix ix_list (pv 2) pe_int (fun _ _ => rfl)) pa_nil)) pa_nil)) (nomark _)) (pw_or1 (pt_cmpR op_ne (pe_fld (pv 5) rfl) (pe_ix ix_list (pv 2) pe_int (fun _ _ => rfl)) (nomark _))))))
      (pss_one (ps_ret pe_bl))
      pss_nil)
      (pss_cons (ps_lock (ps_for PassesOwn.never rfl (pi_keys (pe_ix ix_list (pv 2) pe_int (fun _ _ => rfl))) (pg_name (i := 6) sc_law.nd rfl (Or.inl rfl))
      (pss_cons (ps_set (i := 7) sc_law.nd rfl (Or.inl rfl) (pe_mt T_Work_steps K_Work (hr.mono (by decide)) (pv 5) (pa_cons (pv 6) pa_nil)))
      (pss_cons (ps_expr (pe_bm PySem.F.plainAttrs_list PySem.F.slot_list_append PySem.F.type_list_append mt_append (pv 7) (pa_cons pe_str pa_nil)))
      (pss_one (ps_if (pt_cmpR (op_neD hr.units) (pe_mt T_Work_steps K_Work (hr.mono (by decide)) (pv 5) (pa_cons (pv 6) pa_nil)) (pe_lc (own := [("_law_step", 13), ("_law_to", 14)]) (g := gTup K 2 (gCons (gName 13) (gCons (gName 14) gNil))) (tt := tYes) (by rfl) sc_law.nd (pi_list (pe_cal C_l_steps (hr.mono (by decide)) (by rfl) (pa_cons (pe_ix ix_list (pv 2) pe_int (fun _ _ => rfl)) (pa_cons (pv 6) pa_nil)))) (blkOk_by (own := [("_law_step", 13), ("_law_to", 14)]) (N := N_law) (sc := defScope s_law) (by decide +kernel)) (fun _ _ _ _ _ => by exact (pg_tupK (K := K) rfl (pgs_cons (pg_name (i := 13) sc_law.nd rfl (Or.inl rfl)) (pgs_cons (pg_name (i := 14) sc_law.nd rfl (Or.inl rfl)) pgs_nil)))) (fun _ _ _ _ _ => pts_nil) (fun _ _ _ _ _ => by exact (pv 13))) (nomark _))
      (pss_one (ps_ret pe_bl))
      pss_nil))))))
      (pss_cons (ps_set (i := 8) sc_law.nd rfl (Or.inl rfl) (pe_mk M_Work (hr.mono (by decide)) (by rfl) (pa_cons (pe_ix ix_list (pv 2) pe_int (fun _ _ => rfl)) (pa_cons (pe_ix ix_list (pv 2) pe_int (fun _ _ => rfl)) (pa_cons (pe_cal C_l_turned (hr.mono (by decide)) (by rfl) (pa_cons (pe_ix ix_list (pv 2) pe_int (fun _ _ => rfl)) pa_nil)) pa_nil)))))
      (pss_cons (ps_if (PW.pt (pw_or (pt_not (pt_cmpR (op_eqOwn T_Work_eq (hr.mono (by decide))) (pv 5) (pv 8) (nomark _))) (pw_or (pt_not (pt_cmpR (op_eqOwn T_Work_eq (hr.mono (by decide))) (pv 8) (pv 5) (nomark _))) (pw_or1 (pt_cmpR (op_neX (hu100 hr)) (pe_prp P_Work_stands K_Work (hr.mono (by decide)) (pv 5)) (pe_prp P_Work_stands K_Work (hr.mono (by decide)) (pv 8)) (nomark _))))))
      (pss_one (ps_ret pe_bl))
      pss_nil)
      (pss_cons (ps_set (i := 9) sc_law.nd rfl (Or.inl rfl) (pe_mk M_Work (hr.mono (by decide)) (by rfl) (pa_cons (pe_ix ix_list (pv 3) pe_int (fun _ _ => rfl)) (pa_cons (pe_ix ix_list (pv 3) pe_int (fun _ _ => rfl)) (pa_cons (pe_cal C_l_copy (hr.mono (by decide)) (by rfl) (pa_cons (pe_ix ix_list (pv 3) pe_int (fun _ _ => rfl)) pa_nil)) pa_nil)))))
      (pss_cons (ps_if (pt_cmpR op_ne (pe_cmpR (op_eqOwn T_Work_eq (hr.mono (by decide))) (pv 5) (pv 9) (nomark _)) (pe_cmpR (op_eqX (hu100 hr)) (pv 3) (pe_slice sl_list (pv 2) po_none (po_some pe_int)) (nomark _)) (nomark _))
      (pss_one (ps_ret pe_bl))
      pss_nil)
      (pss_cons (ps_set (i := 10) sc_law.nd rfl (Or.inl rfl) (pe_callTy call_dictA (by rfl) Z_dict (by decide +kernel) (pa_cons (pe_ix ix_list (pv 2) pe_int (fun _ _ => rfl)) pa_nil)))
      (pss_cons (ps_set (i := 11) sc_law.nd rfl (Or.inl rfl) (pe_mk M_Wish (hr.mono (by decide)) (by rfl) (pa_cons (pv 10) (pa_cons (pe_ix ix_list (pv 2) pe_int (fun _ _ => rfl)) pa_nil))))
      (pss_cons (ps_dput hu (pv 10) pe_str pe_int rfl)
      (pss_cons (ps_if (PW.pt (pw_or (pt_cmpR (op_neX (hu100 hr)) (pe_prp P_Wish_worths K_Wish (hr.mono (by decide)) (pv 11)) (pe_ix ix_list (pv 2) pe_int (fun _ _ => rfl)) (nomark _)) (pw_or1 (pt_not (pt_cmpR (op_eqOwn T_Wish_eq (hr.mono (by decide))) (pv 11) (pe_mk M_Wish (hr.mono (by decide)) (by rfl) (pa_cons (pe_cal C_l_backwards (hr.mono (by decide)) (by rfl) (pa_cons (pe_ix ix_list (pv 2) pe_int (fun _ _ => rfl)) pa_nil)) (pa_cons (pe_ix ix_list (pv 2) pe_int (fun _ _ => rfl)) pa_nil))) (nomark _))))))
      (pss_one (ps_ret pe_bl))
      pss_nil)
      (pss_cons (ps_for PassesOwn.never rfl (pi_list (pe_cal C_l_other_wishes (hr.mono (by decide)) (by rfl) (pa_cons (pv 1) (pa_cons (pe_ix ix_list (pv 2) pe_int (fun _ _ => rfl)) (pa_cons (pe_ix ix_list (pv 2) pe_int (fun _ _ => rfl)) pa_nil))))) (pg_name (i := 12) sc_law.nd rfl (Or.inl rfl))
      (pss_one (ps_if (pt_cmpR (op_eqOwn T_Wish_eq (hr.mono (by decide))) (pv 11) (pe_mk M_Wish (hr.mono (by decide)) (by rfl) (pa_cons (pe_callTy call_dictA (by rfl) Z_dict (by decide +kernel) (pa_cons (pv 12) pa_nil)) (pa_cons (pe_ix ix_list (pv 2) pe_int (fun _ _ => rfl)) pa_nil))) (nomark _))
      (pss_one (ps_ret pe_bl))
      pss_nil)))
      (pss_one (ps_ret (pe_or (pe_not (pe_cmpR (op_eqOwn T_Wish_eq (hr.mono (by decide))) (pv 11) (pe_mk M_Wish (hr.mono (by decide)) (by rfl) (pa_cons (pe_cal C_l_mirror (hr.mono (by decide)) (by rfl) (pa_cons (pe_ix ix_list (pv 2) pe_int (fun _ _ => rfl)) pa_nil)) (pa_cons (pe_un un_neg (pe_ix ix_list (pv 2) pe_int (fun _ _ => rfl))) pa_nil))) (nomark _))) (pe_one (pe_cmpR op_eq (pe_ix ix_list (pv 2) pe_int (fun _ _ => rfl)) pe_int (nomark _)))))))))))))))))))))))), ?_⟩
    walk_at "go"
    refine ⟨sa, ns, rfl, hS, hlen, fun H1 p s1 hp0 hp1 => ?_⟩
    walk_at "go"
    refine ⟨p, 8, false, rfl, hp1, by decide, by decide, fun H2 W D G h st l wl e b2 p2 hW0 hD0 hG0 nWp nGp wa hll => ?_⟩
    walk_at "go"
    have g := wa.good
    refine ⟨p, W, D, h, st, l, [.ref G, .int e], rfl, p2, wa.at_, nWp, wa.tab, g, wa.h1, wa.h4, wa.st, fun H3 R3 F3 h3 st3 l3 b3 p3 hR0 hR3 hT3 g3 h31 h34 hst3 => ?_⟩
    have hW3 := b3 _ _ wa.at_ nWp
    have hG3 := b3 _ _ wa.wt nGp
    have hT := wa.tab.same (fun b o e => by
      obtain ⟨e1, n1⟩ := wo_some e
      rw [show (wo H3 p) b = H3 b from wo_ne n1]
      exact b3 _ _ e1 n1 : L2.Same (wo H2 p) (wo H3 p))
    have hwl : wl.length ≤ 8 := by
      have := congrArg List.length wa.wk
      rw [List.length_map] at this
      have h2 := List.length_filter_le (finAt l) (l.map (·.1))
      rw [List.length_map] at h2
      omega
    have gw : GoodW wl e := ⟨by rw [wa.wk]; exact g.nd.sublist List.filter_sublist, by omega, fun q hq => g.nm _ ((List.mem_filter.mp (by rw [← wa.wk]; exact List.mem_map_of_mem (f := (·.1)) hq)).1), wa.wb, ⟨wa.e1, wa.e2⟩, wa.side⟩
    have h1 := wa.h1
    have h4 := wa.h4
    have hst := wa.st
    clear wa b2 p2 hW0 hD0 hG0
    walk_at "go"
    refine x_ixl 2 (SqL.of hW3) rfl rfl ?_
    walk_at "go"
    refine ⟨D, l, h, l.map (·.1), rfl, hT.same wo_same, g.nd, by have := g.l2; omega, g.sd, fun H4 F4 s4 nF4 hS4 => ?_⟩
    have hW4 := s4 _ _ hW3
    walk_at "go"
    refine x_ixl 0 (SqL.of hW4) rfl rfl ?_
    walk_at "go"
    refine x_ixl 1 (SqL.of hW4) rfl rfl ?_
    walk_at "go"
    intro wk dx5 nwk ndx5 ne5
    have s45 : L2.Same H4 (upd (upd H4 dx5 (.own wk)) wk (.ins CW dx5 [])) := fun b o e => by
      rw [upd_ne (ne_of_none e nwk), upd_ne (ne_of_none e ndx5)]
      exact e
    have hs4 := hS4.of
    refine ⟨wk, F4, dx5, h, st, l, rfl, upd_same, (hs4.same nd_same).same s45, g, h1, h4, hst, fun H6 lw kp T wk6 => ⟨rfl, ?_⟩⟩
    have hwk : H4 wk = none := nwk
    have keep6 : ∀ b o, H4 b = some o → H6 b = some o := fun b o e => kp b o (s45 b o e) (ne_of_none e hwk)
    have k5 : ∀ b, (upd (upd H4 dx5 (.own wk)) wk (.ins CW dx5 [])) b = none → H4 b = none := fun b e => by
      cases e2 : H4 b with
      | none => rfl
      | some o => rw [s45 b o e2] at e; cases e
    have t5 : ∀ b xs, (upd (upd H4 dx5 (.own wk)) wk (.ins CW dx5 [])) b = some (.tup xs) → H4 b = none ∨ H4 b = some (.tup xs) := fun b xs e => by
      by_cases q : b = wk
      · rw [q, upd_same] at e; cases e
      · rw [upd_ne q] at e
        by_cases q2 : b = dx5
        · rw [q2, upd_same] at e; cases e
        · rw [upd_ne q2] at e; exact .inr e
    have gT := T.good g
    walk_at "go"
    refine ⟨F4, h, l, hid H3 H4 H6, rfl, hid_same, hs4.same (hid_nd s4 keep6), g, fun H7 s7 => ?_⟩
    have wk7 : WorkAt CW H7 wk h st lw := wk6.same ((hid_work hwk k5 t5).trans s7)
    have old7 : L2.Same H3 H7 := fun b o e => s7 b o (by rw [hid_old e]; exact keep6 _ _ (s4 _ _ e))
    clear s7 t5 k5 keep6 hwk wk6 kp s45 ne5 ndx5 nwk hs4 hS4 nF4 hW4 s4
    walk_at "go"
    obtain ⟨dw, tw, nw, ew, iw7, _⟩ := id wk7.ex
    refine x_prp iw7 ?_
    refine ⟨wk, h, st, lw, rfl, wk7, gT, fun H8 D8 l8 s8 nD8 hD8 g8 e8 => ?_⟩
    refine ⟨D8, h, l8, H7, rfl, s8, hD8, g8, fun H9 s9 => ?_⟩
    clear s8 nD8 hD8 g8 e8
    have old9 : L2.Same H3 H9 := old7.trans s9
    have wk9 := wk7.same s9
    clear old7 wk7 iw7 s9
    walk_at "go"
    obtain ⟨dw, tw, nw, ew, iw9, _, hn9, _⟩ := id wk9.ex
    refine x_prp iw9 ?_
    refine ⟨wk, h, st, lw, rfl, wk9, gT, fun HA DA lA sA nDA hDA gA eA => ?_⟩
    walk_at "go"
    have hWA := sA _ _ (old9 _ _ hW3)
    have hTA : DictOf SdAt HA D l := (hT.same wo_same).same (old9.trans sA)
    refine x_ixl 2 (SqL.of hWA) rfl rfl ?_
    have eAl : eqT lA l = true := eqT_trans gA.ndT gT.ndT g.ndT eA (eqT_symm g.ndT gT.ndT (eqT_sort g T))
    refine ⟨10, true, by decide, by rw [← eAl]; exact tab_top (n := 7) gA.ndT g.ndT (hDA.same nd_same) hTA, ?_⟩
    have wkA := wk9.same sA
    have oldA : L2.Same H3 HA := old9.trans sA
    clear sA nDA hDA gA eA eAl wk9 iw9 hn9 old9
    obtain ⟨dw, tw, nw, ew, iwA, _, hnA, _⟩ := id wkA.ex
    walk_at "go"
    refine x_fld K_Work N2 iwA wkF_names ?_
    walk_at "go"
    refine x_ixl 2 (SqL.of hWA) rfl rfl ?_
    obtain ⟨mA, hDA, kA, kA2⟩ := id hTA.ex
    have ek : (strK V.ref mA).map (·.1) = (l.map (·.1)).map Sum.inr := by
      rw [← kA, List.map_map, List.map_map]
      rfl
    refine ⟨D, _, l.map (·.1), rfl, .inl hDA, ek, by rw [List.length_map]; have := g.l2; omega, fun ys q hperm hsort hq => ?_⟩
    have eys : ys = lw.map (·.1) := sorted_one hsort T.so (hperm.trans T.pm.symm)
    subst eys
    walk_at "go"
    refine x_tupL (SqL.of upd_same) fun u hu => ?_
    have sAq : L2.Same HA (upd (upd HA q (.lst (strsV (lw.map (·.1))))) u (.tup (strsV (lw.map (·.1))))) := (same_new hq).trans (same_new hu)
    refine x_neSameT (SqT.of (sAq _ _ hnA)) (SqT.of upd_same) (names_dat gT.nm) ?_
    generalize upd (upd HA q (.lst (strsV (lw.map (·.1))))) u (.tup (strsV (lw.map (·.1)))) = HB at sAq ⊢
    have oldB : L2.Same H3 HB := oldA.trans sAq
    have wkB := wkA.same sAq
    have iwB := sAq _ _ iwA
    clear hq hu hsort hperm ek kA2 kA hDA hnA hTA hWA oldA sAq iwA
    walk_at "go"
    refine x_fld K_Work N1 iwB wkF_start ?_
    walk_at "go"
    refine x_ixl 1 (SqL.of (oldB _ _ hW3)) rfl rfl ?_
    walk_at "go"
    refine x_nyes rfl ?_
    walk_at "go"
    have hTB : DictOf SdAt HB D l := (hT.same wo_same).same oldB
    obtain ⟨m, hDB, hmk, hms⟩ := hTB.ex
    refine x_lock hDB trivial fun od => ?_
    have wf : WorkRd CW (upd HB D (.frz od (.dK (strK V.ref m)))) wk h st lw := work_held hDB (fun z b hzb => by obtain ⟨x, _, hs⟩ := hms z b hzb; exact ⟨x, hs⟩) wkB gT
    have tf : TabRd (upd HB D (.frz od (.dK (strK V.ref m)))) D l := TabRd.held hDB hmk hms g.sd
    have df : (upd HB D (.frz od (.dK (strK V.ref m)))) D = some (.frz od (.dK (strK V.ref m))) := upd_same
    have iwF : (upd HB D (.frz od (.dK (strK V.ref m)))) wk = some (.ins CW dw (wkF h st tw nw ew (ringB lw (lw.map (·.1))))) := by rw [upd_ne (ne_of iwB hDB (by intro z; cases z))]; exact iwB
    have hWF : (upd HB D (.frz od (.dK (strK V.ref m)))) W = some (.lst [.int h, .str st, .ref D, .ref G, .int e]) := by rw [upd_ne (ne_of (oldB _ _ hW3) hDB (by intro z; cases z))]; exact oldB _ _ hW3
    have back : ∀ H', L2.Same (upd HB D (.frz od (.dK (strK V.ref m)))) H' → L2.Same HB (upd H' D (.dK (strK V.ref m))) := fun H' s => same_back hDB s
    generalize upd HB D (.frz od (.dK (strK V.ref m))) = HF at wf tf df iwF hWF back
    walk_at "go"
    refine x_ixl 2 (SqL.of hWF) rfl rfl ?_
    refine lpK (kvs := strK V.ref m) (fun j σ H' => ∃ v6 v7, σ = [some (.ref sa), some (.ref p), some (.ref W), some (.ref R3), some (.ref F4), some (.ref wk), v6, v7, none, none, none, none, none, none, none] ∧ L2.Same HF H') df ⟨_, _, rfl, L2.Same.refl _⟩ (fun j σ H' _ ⟨_, _, _, s8⟩ => s8 _ _ df) ?_ ?_
    · rintro j kk v0 σ H8 hj ⟨v6, v7, rfl, s8⟩
      obtain ⟨z, y, rfl, rfl, hly⟩ := strK_at hj
      obtain ⟨x, hx⟩ := lookup_isSome (l := l) (z := z) (by rw [← hmk]; exact List.mem_map.mpr ⟨_, List.mem_of_getElem? hly, rfl⟩)
      obtain ⟨xw, hxw, sxw⟩ := tab_look T hx
      have gxw := gT.sd z xw hxw
      walk_at "go"
      refine x_mti (s8 _ _ iwF) (wkF_none (by decide +kernel) (by decide +kernel) (by decide +kernel) (by decide +kernel) (by decide +kernel) (by decide +kernel)) ?_
      walk_at "go"
      refine ⟨wk, h, st, z, lw, xw, rfl, wf.same s8, hxw, gxw, sort_srt sxw, fun H9 q9 s9 n9 h9 => ?_⟩
      walk_at "go"
      obtain ⟨sl4, snm⟩ := steps_le gxw
      refine x_app h9 (sz_lt (by rw [List.length_map]; omega)) ?_
      have s8b : L2.Same HF (upd H9 q9 (.lst (strsV (stepsL xw) ++ [.str "zz"]))) := same_upd (s8.trans s9) (s8.free n9)
      generalize upd H9 q9 (.lst (strsV (stepsL xw) ++ [.str "zz"])) = HC at s8b
      walk_at "go"
      refine x_mti (s8b _ _ iwF) (wkF_none (by decide +kernel) (by decide +kernel) (by decide +kernel) (by decide +kernel) (by decide +kernel) (by decide +kernel)) ?_
      walk_at "go"
      refine ⟨wk, h, st, z, lw, xw, rfl, wf.same s8b, hxw, gxw, sort_srt sxw, fun HD qD sD nD hD => ?_⟩
      have s8c := s8b.trans sD
      walk_at "go"
      refine x_ixl 2 (SqL.of (s8c _ _ hWF)) rfl rfl ?_
      walk_at "go"
      refine ⟨D, z, l, x, h, l.map (·.1), rfl, tf.same s8c, hx, g.sd z x hx, fun HE qE as ps sE nE hE rows pm so _ => ?_⟩
      have s8d := s8c.trans sE
      have hDE := sE _ _ hD
      refine runL (SqL.of hE) fun B hB => ?_
      have nqB : qE ≠ B := ne_of_none hE hB
      refine lcL (xs := as.map V.ref) (fun t H' => L2.Same HE H' ∧ H' B = some (.lst (strsV ((ps.take t).map (·.1))))) ⟨same_new hB, upd_same⟩ (fun t H' _ h => SqL.of (h.1 _ _ hE)) ?_ ?_
      · rintro t x7 H' hx7 ⟨sX, hB7⟩
        rw [List.getElem?_map] at hx7
        cases ht : as[t]? with
        | none => rw [ht] at hx7; cases hx7
        | some a7 =>
          rw [ht] at hx7
          have ex : V.ref a7 = x7 := Option.some.inj hx7
          subst ex
          have htl : t < ps.length := by rw [← rows.len]; exact (List.getElem?_eq_some_iff.mp ht).1
          have hp7 := List.getElem?_eq_getElem htl
          have ha7 := sX _ _ (rows.at_ t a7 _ ht hp7)
          refine x_g2 (SqT.of ha7) ?_
          walk_at "go"
          refine ⟨rfl, ?_⟩
          walk_at "go"
          refine ⟨_, hB7, sz_lt (by rw [List.length_map, List.length_map, List.length_take]; have := pm.length_eq; rw [List.length_map] at this; have := (steps_le (g.sd z x hx)).1; omega), same_upd sX hB, ?_⟩
          rw [upd_same, take_succ_get hp7, List.map_append]
          show _ = some (HO.lst (List.map V.str (_ ++ _)))
          rw [List.map_append]
          rfl
      · rintro H' ⟨sX, hB7⟩
        rw [List.length_map, rows.len, List.take_length] at hB7
        have eq : ps.map (·.1) = stepsL xw := sorted_one so (sort_srt sxw) (pm.trans (sort_perm sxw).symm)
        rw [eq] at hB7
        refine x_neSame (SqL.of (sX _ _ hDE)) (SqL.of hB7) (names_dat snm) ?_
        walk_at "go"
        exact ⟨_, _, rfl, s8d.trans sX⟩
    · rintro σ H8 ⟨v6, v7, rfl, s8⟩
      refine ⟨s8 _ _ df, ?_⟩
      have sBC := back _ s8
      generalize upd H8 D (.dK (strK V.ref m)) = HC at sBC
      have wkC := wkB.same sBC
      have oldC := oldB.trans sBC
      clear back s8 wf tf df iwF hWF iwB wkB oldB hTB hDB hmk hms m
      have hTC : DictOf SdAt HC D l := (hT.same wo_same).same oldC
      walk_at "go"
      refine x_ixl 0 (SqL.of (oldC _ _ hW3)) rfl rfl ?_
      walk_at "go"
      refine x_ixl 1 (SqL.of (oldC _ _ hW3)) rfl rfl ?_
      walk_at "go"
      refine x_ixl 2 (SqL.of (oldC _ _ hW3)) rfl rfl ?_
      walk_at "go"
      refine ⟨D, h, l, rfl, hTC, g, fun HD F5 l5 sD nF5 hT5 g5 e5 => ?_⟩
      have st5 := eqT_mem g.ndT g5.ndT e5 hst
      walk_at "go"
      intro w2 dx6 nw2 ndx6 ne6
      have sDE : L2.Same HD (upd (upd HD dx6 (.own w2)) w2 (.ins CW dx6 [])) := fun b o e => by
        rw [upd_ne (ne_of_none e nw2), upd_ne (ne_of_none e ndx6)]
        exact e
      refine ⟨w2, F5, dx6, h, st, l5, rfl, upd_same, hT5.same sDE, g5, h1, h4, st5, fun HE lw2 kpE T2 wkE => ⟨rfl, ?_⟩⟩
      have sE : L2.Same HC HE := sD.trans (fun b o e => kpE b o (sDE b o e) (ne_of_none e nw2))
      have w2E := wkE.same ndx_same
      have gT2 := T2.good g5
      have wk1 := wkC.same sE
      have oldE := oldC.trans sE
      have e12 : eqT lw lw2 = true := eqT_trans gT.ndT g.ndT gT2.ndT (eqT_symm g.ndT gT.ndT (eqT_sort g T)) (eqT_trans g.ndT g5.ndT gT2.ndT e5 (eqT_sort g5 T2))
      clear wkE kpE sDE ne6 ndx6 nw2 hT5 nF5 sD hTC oldC wkC sE
      walk_at "go"
      have e21 : eqT lw2 lw = true := eqT_symm gT.ndT gT2.ndT e12
      refine x_eqWk wk1 w2E gT gT2 (r := true) (by rw [decide_eq_true rfl, decide_eq_true rfl, e12]; rfl) ?_
      refine ⟨true, rfl, x_ite (fun z => by cases z) (fun _ => ?_)⟩
      walk_at "go"
      refine x_eqWk w2E wk1 gT2 gT (r := true) (by rw [decide_eq_true rfl, decide_eq_true rfl, e21]; rfl) ?_
      refine ⟨true, rfl, x_ite (fun z => by cases z) (fun _ => ?_)⟩
      walk_at "go"
      obtain ⟨_, _, _, _, iw1, _⟩ := id wk1.ex
      refine x_prp iw1 ?_
      refine ⟨wk, h, st, lw, rfl, wk1, gT, fun HG DG lG sG nDG hDG gG eG => ?_⟩
      walk_at "go"
      obtain ⟨_, _, _, _, iw2, _⟩ := id w2E.ex
      refine x_prp (sG _ _ iw2) ?_
      refine ⟨w2, h, st, lw2, rfl, w2E.same sG, gT2, fun HI DI lI sI nDI hDI gI eI => ?_⟩
      have eGI : eqT lG lI = true := eqT_trans gG.ndT gT.ndT gI.ndT eG (eqT_trans gT.ndT gT2.ndT gI.ndT e12 (eqT_symm gI.ndT gT2.ndT eI))
      refine ⟨10, true, by decide, by rw [← eGI]; exact tab_top (n := 7) gG.ndT gI.ndT ((hDG.same nd_same).same sI) (hDI.same nd_same), ?_⟩
      have oldI := oldE.trans (sG.trans sI)
      have wkI := wk1.same (sG.trans sI)
      clear sG nDG hDG gG eG sI nDI hDI gI eI eGI oldE wk1 w2E iw1 iw2 e12 e21 gT2 T2 g5 st5 e5
      have hTI : DictOf SdAt HI D l := (hT.same wo_same).same oldI
      have hT3I : DictOf SdAt HI F3 l3 := (hT3.same wo_same).same oldI
      have hR3I := oldI _ _ hR3
      walk_at "go"
      refine x_ixl 0 (SqL.of hR3I) rfl rfl ?_
      walk_at "go"
      refine x_ixl 1 (SqL.of hR3I) rfl rfl ?_
      walk_at "go"
      refine x_ixl 2 (SqL.of hR3I) rfl rfl ?_
      walk_at "go"
      refine ⟨F3, l3, h3, l3.map (·.1), rfl, hT3I, g3.nd, by have := g3.l2; omega, g3.sd, fun HJ F6 sJ nF6 hS6 => ?_⟩
      have hS6' := hS6.of
      walk_at "go"
      intro w3 dx7 nw3 ndx7 ne7
      have sJK : L2.Same HJ (upd (upd HJ dx7 (.own w3)) w3 (.ins CW dx7 [])) := fun b o e => by
        rw [upd_ne (ne_of_none e nw3), upd_ne (ne_of_none e ndx7)]
        exact e
      refine ⟨w3, F6, dx7, h3, st3, l3, rfl, upd_same, (hS6'.same nd_same).same sJK, g3, h31, h34, hst3, fun HK lw3 kpK T3 wkK => ⟨rfl, ?_⟩⟩
      have sK : L2.Same HI HK := sJ.trans (fun b o e => kpK b o (sJK b o e) (ne_of_none e nw3))
      have w3K := wkK.same ndx_same
      have gT3 := T3.good g3
      have wkK1 := wkI.same sK
      have oldK := oldI.trans sK
      clear wkK kpK sJK ne7 ndx7 nw3 hS6' hS6 nF6 sJ hTI hT3I hR3I oldI wkI sK
      have hTK : DictOf SdAt HK D l := (hT.same wo_same).same oldK
      have hT3K : DictOf SdAt HK F3 l3 := (hT3.same wo_same).same oldK
      have hR3K := oldK _ _ hR3
      have hWK := oldK _ _ hW3
      walk_at "go"
      refine x_eqWk wkK1 w3K gT gT3 rfl ?_
      walk_at "go"
      refine x_slL (SqL.of hWK) fun S nS => ?_
      rw [show cutV [.int h, .str st, .ref D, .ref G, .int e] none (some 3) = [.int h, .str st, .ref D] from rfl]
      have sKL : L2.Same HK (upd HK S (.lst [.int h, .str st, .ref D])) := same_new nS
      have hSL : (upd HK S (.lst [.int h, .str st, .ref D])) S = some (.lst [.int h, .str st, .ref D]) := upd_same
      generalize upd HK S (.lst [.int h, .str st, .ref D]) = HL at sKL hSL
      have eqv : eqT lw lw3 = eqT l3 l := by
        rw [← eqT_left g.ndT gT.ndT gT3.ndT (eqT_sort g T), eqT_comm g.ndT gT3.ndT, ← eqT_left g3.ndT gT3.ndT g.ndT (eqT_sort g3 T3)]
      have er : (decide (h = h3) && (decide (st = st3) && eqT lw lw3)) = ((h3 == h) && ((st3 == st) && (eqT l3 l && true))) := by
        rw [eqv, Bool.and_true]
        have e1 : (h3 == h) = decide (h = h3) := by
          by_cases q : h = h3
          · rw [decide_eq_true q, q]; exact beq_self_eq_true h3
          · rw [decide_eq_false q]; exact beq_eq_false_iff_ne.mpr (fun z => q z.symm)
        have e2 : (st3 == st) = decide (st = st3) := by
          by_cases q : st = st3
          · rw [decide_eq_true q, q]; exact beq_self_eq_true st3
          · rw [decide_eq_false q]; exact beq_eq_false_iff_ne.mpr (fun z => q z.symm)
        rw [e1, e2]
      refine ⟨10, ((h3 == h) && ((st3 == st) && (eqT l3 l && true))), by decide, .inl ⟨R3, S, [.int h3, .str st3, .ref F3], [.int h, .str st, .ref D], fun j => match j with | 0 => h3 == h | 1 => st3 == st | _ => eqT l3 l, rfl, rfl, SqL.of (sKL _ _ hR3K), SqL.of hSL, rfl, fun j x y hx hy => ?_, rfl⟩, ?_⟩
      · match j, hx, hy with
        | 0, hx, hy => cases hx; cases hy; exact .int _ _
        | 1, hx, hy => cases hx; cases hy; exact .str _ _
        | 2, hx, hy => cases hx; cases hy; exact tab_eqd (n := 6) g3.ndT g.ndT (hT3K.same sKL) (hTK.same sKL)
        | j + 3, hx, _ => simp at hx
      rw [er]
      generalize ((h3 == h) && ((st3 == st) && (eqT l3 l && true))) = r3
      refine x_neB ?_
      refine ⟨_, rfl, ?_⟩
      refine x_nyes rfl ?_
      have oldL := oldK.trans sKL
      clear er eqv hSL sKL nS hTK hT3K hR3K hWK oldK wkK1 w3K gT3 T3
      walk_at "go"
      refine x_ixl 3 (SqL.of (oldL _ _ hW3)) rfl rfl ?_
      walk_at "go"
      refine x_dict (.inl (oldL _ _ hG3)) fun WH nWH => ?_
      have sLM : L2.Same HL (upd HL WH (.dK (strK V.int wl))) := same_new nWH
      have hWH : (upd HL WH (.dK (strK V.int wl))) WH = some (.dK (strK V.int wl)) := upd_same
      generalize upd HL WH (.dK (strK V.int wl)) = HM at sLM hWH
      have oldM := oldL.trans sLM
      walk_at "go"
      refine x_ixl 4 (SqL.of (oldM _ _ hW3)) rfl rfl ?_
      walk_at "go"
      intro x1 dx8 nx1 ndx8 ne8
      have sMN : L2.Same HM (upd (upd HM dx8 (.own x1)) x1 (.ins C dx8 [])) := fun b o e => by
        rw [upd_ne (ne_of_none e nx1), upd_ne (ne_of_none e ndx8)]
        exact e
      refine ⟨x1, WH, dx8, e, wl, rfl, upd_same, sMN _ _ hWH, gw, fun HN kpN W1 => ⟨rfl, ?_⟩⟩
      have sMN' : L2.Same HM HN := fun b o e => kpN b o (sMN b o e) (ne_of_none e nx1)
      walk_at "go"
      refine x_putL (l := wl) (x := 100) (sMN' _ _ hWH) (by have := gw.len; omega) rfl ?_
      have nWx : WH ≠ x1 := fun q => by
        have := sMN _ _ hWH
        rw [q, upd_same] at this
        cases this
      have W1o : WishAt C (upd HN WH (.dK (strK V.int (putL wl "zzzzzzzz" 100)))) x1 wl e := W1.same fun b o e0 => by
        by_cases q : b = WH
        · subst q
          rw [ndx_ne nWx] at e0
          have h0 := sMN _ _ hWH
          rcases (nd_some e0).1 with h | ⟨xs, h⟩ <;> rw [h0] at h <;> cases h
        · rw [upd_ne q]
          exact ndx_same _ _ e0
      have oldO : L2.Same H3 (upd HN WH (.dK (strK V.int (putL wl "zzzzzzzz" 100)))) := same_upd (oldM.trans sMN') (oldL.free nWH)
      generalize upd HN WH (.dK (strK V.int (putL wl "zzzzzzzz" 100))) = HO at W1o oldO
      clear nWx sMN' W1 kpN sMN ne8 ndx8 nx1 oldM sLM hWH nWH oldL
      walk_at "go"
      obtain ⟨_, _, _, ix1, _⟩ := id W1o.ex
      refine x_prp ix1 ?_
      refine ⟨x1, e, wl, rfl, W1o, gw.nd, by have := gw.len; omega, fun HP DP lP sP nDP hDP pP => ?_⟩
      have oldP := oldO.trans sP
      have W1p := W1o.same sP
      walk_at "go"
      refine x_ixl 3 (SqL.of (oldP _ _ hW3)) rfl rfl ?_
      have eP : eqA (· == ·) lP wl = true := eqA_ref' pP gw.nd
      refine ⟨10, true, by decide, by rw [← eP]; exact eqd_vals_top (f := V.int) (eq := (· == ·)) (fun x y => .int x y) (((pP.map (·.1)).nodup_iff).mpr gw.nd) gw.nd hDP (oldP _ _ hG3), ?_⟩
      clear eP sP nDP hDP pP ix1 W1o oldO
      walk_at "go"
      refine x_ixl 3 (SqL.of (oldP _ _ hW3)) rfl rfl ?_
      walk_at "go"
      refine ⟨G, wl, rfl, oldP _ _ hG3, gw.nd, by have := gw.len; omega, fun HQ DQ lQ sQ nDQ hDQ pQ => ?_⟩
      have oldQ := oldP.trans sQ
      walk_at "go"
      refine x_ixl 4 (SqL.of (oldQ _ _ hW3)) rfl rfl ?_
      walk_at "go"
      intro x2 dx9 nx2 ndx9 ne9
      have sQR : L2.Same HQ (upd (upd HQ dx9 (.own x2)) x2 (.ins C dx9 [])) := fun b o e => by
        rw [upd_ne (ne_of_none e nx2), upd_ne (ne_of_none e ndx9)]
        exact e
      refine ⟨x2, DQ, dx9, e, lQ, rfl, upd_same, sQR _ _ hDQ, gw.perm pQ, fun HR kpR W2 => ⟨rfl, ?_⟩⟩
      have sR : L2.Same HQ HR := fun b o e => kpR b o (sQR b o e) (ne_of_none e nx2)
      have W1r := W1p.same (sQ.trans sR)
      have oldR := oldQ.trans sR
      refine x_eqWi W1r (W2.same ndx_same) gw.nd (gw.perm pQ).nd (r := true) (by rw [decide_eq_true rfl, eqA_ref pQ gw.nd]; rfl) ?_
      refine ⟨true, rfl, x_ite (fun z => by cases z) fun _ => ?_⟩
      clear sR W2 kpR sQR ne9 ndx9 nx2 oldQ sQ nDQ hDQ pQ W1p oldP
      have pR := p3.same oldR
      walk_at "go"
      refine x_ixl 3 (SqL.of (oldR _ _ hW3)) rfl rfl ?_
      walk_at "go"
      refine x_ixl 4 (SqL.of (oldR _ _ hW3)) rfl rfl ?_
      walk_at "go"
      refine ⟨p, G, e, wl, rfl, pR, oldR _ _ hG3, gw, fun HS RW cs bS pS nRW hRW lcs hcs => ?_⟩
      have W1s := W1r.but pR bS
      have hWS := bS _ _ (oldR _ _ hW3) nWp
      have hGS := bS _ _ (oldR _ _ hG3) nGp
      clear pS nRW bS pR W1r oldR
      refine lpL (xs := cs.map V.ref) (fun i σ H' => ∃ v12 : Option V, σ = [some (.ref sa), some (.ref p), some (.ref W), some (.ref R3), some (.ref F4), some (.ref wk), v6, v7, some (.ref w2), some (.ref w3), some (.ref WH), some (.ref x1), v12, none, none] ∧ L2.Same HS H') (SqL.of hRW) ⟨_, rfl, L2.Same.refl _⟩ (fun i σ H' _ ⟨_, _, sS⟩ => SqL.of (sS _ _ hRW)) ?_ ?_
      · rintro i v σ HT hv ⟨v12, rfl, sT⟩
        rw [List.getElem?_map] at hv
        cases hc : cs[i]? with
        | none => rw [hc] at hv; cases hv
        | some c =>
          rw [hc] at hv
          have ex : V.ref c = v := Option.some.inj hv
          subst ex
          obtain ⟨l2, hl2, gl2, nl2⟩ := hcs c (List.mem_of_getElem? hc)
          walk_at "go"
          refine x_dict (.inl (sT _ _ hl2)) fun DD nDD => ?_
          have sU : L2.Same HT (upd HT DD (.dK (strK V.int l2))) := same_new nDD
          have hDD : (upd HT DD (.dK (strK V.int l2))) DD = some (.dK (strK V.int l2)) := upd_same
          generalize upd HT DD (.dK (strK V.int l2)) = HU at sU hDD
          walk_at "go"
          refine x_ixl 4 (SqL.of (sU _ _ (sT _ _ hWS))) rfl rfl ?_
          walk_at "go"
          intro x3 dxa nx3 ndxa nea
          have sUV : L2.Same HU (upd (upd HU dxa (.own x3)) x3 (.ins C dxa [])) := fun b o e => by
            rw [upd_ne (ne_of_none e nx3), upd_ne (ne_of_none e ndxa)]
            exact e
          refine ⟨x3, DD, dxa, e, l2, rfl, upd_same, sUV _ _ hDD, gl2, fun HV kpV W3 => ⟨rfl, ?_⟩⟩
          have sV : L2.Same HU HV := fun b o e => kpV b o (sUV b o e) (ne_of_none e nx3)
          have sSV := sT.trans (sU.trans sV)
          refine x_eqWi (W1s.same sSV) (W3.same ndx_same) gw.nd gl2.nd (r := false) (by rw [decide_eq_true rfl, nl2]; rfl) ?_
          refine ⟨false, rfl, x_ite (fun z => by cases z) fun _ => ?_⟩
          walk_at "go"
          exact ⟨_, rfl, sSV⟩
      · rintro σ HT ⟨v12, rfl, sT⟩
        walk_at "go"
        refine x_ixl 3 (SqL.of (sT _ _ hWS)) rfl rfl ?_
        walk_at "go"
        refine ⟨G, wl, rfl, sT _ _ hGS, gw.nd, by have := gw.len; omega, fun HV DV sV nDV hDV => ?_⟩
        walk_at "go"
        refine x_ixl 4 (SqL.of (sV _ _ (sT _ _ hWS))) rfl rfl ?_
        walk_at "go"
        intro x4 dxb nx4 ndxb neb
        have sVX : L2.Same HV (upd (upd HV dxb (.own x4)) x4 (.ins C dxb [])) := fun b o e => by
          rw [upd_ne (ne_of_none e nx4), upd_ne (ne_of_none e ndxb)]
          exact e
        refine ⟨x4, DV, dxb, -e, negL wl, rfl, upd_same, sVX _ _ hDV, gw.neg, fun HX kpX W4 => ⟨rfl, ?_⟩⟩
        have sX : L2.Same HV HX := fun b o e => kpX b o (sVX b o e) (ne_of_none e nx4)
        have sTX := sT.trans (sV.trans sX)
        refine x_eqWi (W1s.same sTX) (W4.same ndx_same) gw.nd gw.neg.nd rfl ?_
        by_cases q : e = -e
        · have e0 : e = 0 := by omega
          refine ⟨_, rfl, _, rfl, x_ite (fun _ => k HX) (fun _ => ?_)⟩
          walk_at "go"
          refine x_ixl 4 (SqL.of (sTX _ _ hWS)) rfl rfl ?_
          walk_at "go"
          rw [decide_eq_true e0]
          exact k _
        · rw [decide_eq_false q]
          exact ⟨_, rfl, _, rfl, x_ite (fun _ => k HX) (fun z => by cases z)⟩
end
end Law
namespace Law
open PySem PySem.Spec PyProof.Rows L2 Ox
theorem facts {P : Program} {w : World} {K : PySem.W.Frag} {h : Heap} {mg : Str → Option Value} {f : Addr} (X : K.In h) (G : h.Ns mainGlobals mg) (hfa : mg ("law" : Str) = some (.ref f)) (c : Oh.Told faA dsA K) :
    ∃ fd : FuncData, (∀ (s : Shared) (v : Value), BindsTo s fd ⟨[v], []⟩ [("_law_script", v)]) ∧ ∀ base : Heap, K.In base → base.Ns mainGlobals mg → FnOk P w K mg base CX0 8 f fd ["_law_script"] ((spLaw K)) := by
  obtain ⟨_, F_law⟩ := c.def_ 0 (d := d_law) rfl
  have e := hfa.symm.trans (He.glo_ok X G (c.fact 0 (f := Oh.fo (.glo "law")) rfl))
  cases e
  have b := Oh.bindsA (ps := ["_law_script"]) F_law fun _ _ _ _ _ _ us hl => match us, hl with | [_], _ => rfl
  refine ⟨_, fun s v => b s [v] rfl, fun base _ _ => ?_⟩
  have x1 : Cls K (He.ga K "Work") := He.cls_ok (c.fact 1 (f := Oh.fo (.cls "Work")) rfl)
  have x2 : Cls K (He.ga K "Wish") := He.cls_ok (c.fact 2 (f := Oh.fo (.cls "Wish")) rfl)
  have x3 : NoAttr K (He.ga K "Work") "start" := He.noat_ok (c.fact 3 (f := Oh.fo (.noat "Work" "start")) rfl)
  have x4 : NoAttr K (He.ga K "Work") "names" := He.noat_ok (c.fact 4 (f := Oh.fo (.noat "Work" "names")) rfl)
  have x5 : mg "sorted" = none := He.free_ok X G (c.fact 5 (f := Oh.fo (.free "sorted")) rfl)
  have x6 : mg "tuple" = none := He.free_ok X G (c.fact 6 (f := Oh.fo (.free "tuple")) rfl)
  have x7 : mg "dict" = none := He.free_ok X G (c.fact 7 (f := Oh.fo (.free "dict")) rfl)
  obtain ⟨_, F_pool⟩ := c.def_ 1 (d := d_pool) rfl
  have x8 : mg "len" = none := He.free_ok X G (c.fact 8 (f := Oh.fo (.free "len")) rfl)
  have x9 : mg "int" = none := He.free_ok X G (c.fact 9 (f := Oh.fo (.free "int")) rfl)
  have x10 : mg "min" = none := He.free_ok X G (c.fact 10 (f := Oh.fo (.free "min")) rfl)
  have x11 : mg "range" = none := He.free_ok X G (c.fact 11 (f := Oh.fo (.free "range")) rfl)
  have x12 : Cal P w K mg base 1 "_law_pool" ["_law_script"] (spPool K) := ⟨_, _, ok_pool F_pool x8 x9 x10 x11, He.glo_ok X G (c.fact 12 (f := Oh.fo (.glo "_law_pool")) rfl), F_pool.kp, bd_pool F_pool⟩
  obtain ⟨_, F_l_world⟩ := c.def_ 2 (d := d_l_world) rfl
  obtain ⟨_, F_draw⟩ := c.def_ 3 (d := d_draw) rfl
  have x13 : Cal P w K mg base 1 "_law_draw" ["_law_pool_here", "_law_many"] spDraw := ⟨_, _, ok_draw F_draw x8 x9, He.glo_ok X G (c.fact 13 (f := Oh.fo (.glo "_law_draw")) rfl), F_draw.kp, bd_draw F_draw⟩
  obtain ⟨_, F_words⟩ := c.def_ 4 (d := d_words) rfl
  have x14 : mg "str" = none := He.free_ok X G (c.fact 14 (f := Oh.fo (.free "str")) rfl)
  obtain ⟨_, F_word⟩ := c.def_ 5 (d := d_word) rfl
  have x15 : Cal P w K mg base 2 "_law_word" ["_law_pool_here", "_law_longest"] spWord := ⟨_, _, ok_word F_word x11 x13, He.glo_ok X G (c.fact 15 (f := Oh.fo (.glo "_law_word")) rfl), F_word.kp, bd_word F_word⟩
  have x16 : Cal P w K mg base 3 "_law_words" ["_law_pool_here", "_law_many"] spWords := ⟨_, _, ok_words F_words x11 x14 x13 x15, He.glo_ok X G (c.fact 16 (f := Oh.fo (.glo "_law_words")) rfl), F_words.kp, bd_words F_words⟩
  obtain ⟨_, F_l_stands⟩ := c.def_ 6 (d := d_l_stands) rfl
  obtain ⟨_, F_l_stand⟩ := c.def_ 7 (d := d_l_stand) rfl
  have x17 : Cal P w K mg base 2 "_law_stand" ["_law_pool_here", "_law_names", "_law_words_here", "_law_hands", "_law_kind"] spStand := ⟨_, _, ok_l_stand F_l_stand x11 x8 x13, He.glo_ok X G (c.fact 17 (f := Oh.fo (.glo "_law_stand")) rfl), F_l_stand.kp, bd_l_stand F_l_stand⟩
  have x18 : Cal P w K mg base 4 "_law_stands" ["_law_pool_here", "_law_names", "_law_hands", "_law_ringless"] spStands := ⟨_, _, ok_l_stands F_l_stands x11 x8 x13 x16 x17, He.glo_ok X G (c.fact 18 (f := Oh.fo (.glo "_law_stands")) rfl), F_l_stands.kp, bd_l_stands F_l_stands⟩
  obtain ⟨_, F_l_worths⟩ := c.def_ 8 (d := d_l_worths) rfl
  have x19 : Cal P w K mg base 2 "_law_worths" ["_law_pool_here", "_law_stands_here"] spWorthsL := ⟨_, _, ok_l_worths F_l_worths x13, He.glo_ok X G (c.fact 19 (f := Oh.fo (.glo "_law_worths")) rfl), F_l_worths.kp, bd_l_worths F_l_worths⟩
  obtain ⟨_, F_endless⟩ := c.def_ 9 (d := d_endless) rfl
  have x20 : mg "max" = none := He.free_ok X G (c.fact 20 (f := Oh.fo (.free "max")) rfl)
  have x21 : Cal P w K mg base 2 "_law_endless" ["_law_pool_here", "_law_wanted"] spEndless := ⟨_, _, ok_endless F_endless x8 x20 x10 x13, He.glo_ok X G (c.fact 21 (f := Oh.fo (.glo "_law_endless")) rfl), F_endless.kp, bd_endless F_endless⟩
  have x22 : Cal P w K mg base 5 "_law_world" ["_law_pool_here", "_law_most", "_law_ringless"] spWorld := ⟨_, _, ok_l_world F_l_world x8 x13 x16 x18 x19 x21, He.glo_ok X G (c.fact 22 (f := Oh.fo (.glo "_law_world")) rfl), F_l_world.kp, bd_l_world F_l_world⟩
  obtain ⟨_, F_l_other⟩ := c.def_ 10 (d := d_l_other) rfl
  have x23 : mg "list" = none := He.free_ok X G (c.fact 23 (f := Oh.fo (.free "list")) rfl)
  obtain ⟨_, F_l_copy⟩ := c.def_ 11 (d := d_l_copy) rfl
  have x24 : Cal P w K mg base 1 "_law_copy" ["_law_stands_here"] spCopyL := ⟨_, _, ok_l_copy F_l_copy x7, He.glo_ok X G (c.fact 24 (f := Oh.fo (.glo "_law_copy")) rfl), F_l_copy.kp, bd_l_copy F_l_copy⟩
  obtain ⟨_, F_l_as_draws⟩ := c.def_ 12 (d := d_l_as_draws) rfl
  have x25 : Cal P w K mg base 1 "_law_as_draws" ["_law_steps_here"] spAsDraws := ⟨_, _, ok_l_as_draws F_l_as_draws , He.glo_ok X G (c.fact 25 (f := Oh.fo (.glo "_law_as_draws")) rfl), F_l_as_draws.kp, bd_l_as_draws F_l_as_draws⟩
  have x26 : Cal P w K mg base 3 "_law_other" ["_law_pool_here", "_law_world_here"] spOther := ⟨_, _, ok_l_other F_l_other x23 x8 x13 x15 x24 x25, He.glo_ok X G (c.fact 26 (f := Oh.fo (.glo "_law_other")) rfl), F_l_other.kp, bd_l_other F_l_other⟩
  obtain ⟨_, F_Work_init⟩ := c.def_ 13 (d := d_Work_init) rfl
  have x27 : NoAttr K (He.ga K "Work") "hands" := He.noat_ok (c.fact 27 (f := Oh.fo (.noat "Work" "hands")) rfl)
  have x28 : NoAttr K (He.ga K "Work") "table" := He.noat_ok (c.fact 28 (f := Oh.fo (.noat "Work" "table")) rfl)
  have x29 : NoAttr K (He.ga K "Work") "ends" := He.noat_ok (c.fact 29 (f := Oh.fo (.noat "Work" "ends")) rfl)
  have x30 : NoAttr K (He.ga K "Work") "ringless" := He.noat_ok (c.fact 30 (f := Oh.fo (.noat "Work" "ringless")) rfl)
  obtain ⟨_, F_is_integer⟩ := c.def_ 14 (d := d_is_integer) rfl
  have x31 : mg "bool" = none := He.free_ok X G (c.fact 31 (f := Oh.fo (.free "bool")) rfl)
  have x32 : mg "isinstance" = none := He.free_ok X G (c.fact 32 (f := Oh.fo (.free "isinstance")) rfl)
  have x33 : Cal P w K mg base 1 "is_integer" ["thing"] (spIsInt K) := ⟨_, _, ok_is_integer F_is_integer x9 x31 x32, He.glo_ok X G (c.fact 33 (f := Oh.fo (.glo "is_integer")) rfl), F_is_integer.kp, bd_is_integer F_is_integer⟩
  obtain ⟨_, F_is_name⟩ := c.def_ 15 (d := d_is_name) rfl
  have x34 : Cal P w K mg base 1 "is_name" ["thing"] (spIsName K) := ⟨_, _, ok_is_name F_is_name x14 x8 x32, He.glo_ok X G (c.fact 34 (f := Oh.fo (.glo "is_name")) rfl), F_is_name.kp, bd_is_name F_is_name⟩
  obtain ⟨_, F_are_stands⟩ := c.def_ 16 (d := d_are_stands) rfl
  obtain ⟨_, F_is_stand⟩ := c.def_ 17 (d := d_is_stand) rfl
  obtain ⟨_, F_is_moves⟩ := c.def_ 18 (d := d_is_moves) rfl
  have x35 : Cal P w K mg base 2 "is_moves" ["thing", "names"] spIsMoves := ⟨_, _, ok_is_moves F_is_moves x7 x8 x32 x34, He.glo_ok X G (c.fact 35 (f := Oh.fo (.glo "is_moves")) rfl), F_is_moves.kp, bd_is_moves F_is_moves⟩
  obtain ⟨_, F_is_draws⟩ := c.def_ 19 (d := d_is_draws) rfl
  obtain ⟨_, F_is_pair⟩ := c.def_ 20 (d := d_is_pair) rfl
  have x36 : Cal P w K mg base 1 "is_pair" ["thing"] (spIsPair K) := ⟨_, _, ok_is_pair F_is_pair x6 x8 x32, He.glo_ok X G (c.fact 36 (f := Oh.fo (.glo "is_pair")) rfl), F_is_pair.kp, bd_is_pair F_is_pair⟩
  have x37 : Cal P w K mg base 2 "is_draws" ["thing", "names"] spIsDraws := ⟨_, _, ok_is_draws F_is_draws x7 x8 x32 x34 x36 x33, He.glo_ok X G (c.fact 37 (f := Oh.fo (.glo "is_draws")) rfl), F_is_draws.kp, bd_is_draws F_is_draws⟩
  have x38 : Cal P w K mg base 3 "is_stand" ["thing", "hands", "names"] (spIsStand K) := ⟨_, _, ok_is_stand F_is_stand x6 x14 x8 x32 x35 x37 x33, He.glo_ok X G (c.fact 38 (f := Oh.fo (.glo "is_stand")) rfl), F_is_stand.kp, bd_is_stand F_is_stand⟩
  have x39 : Cal P w K mg base 4 "are_stands" ["thing", "hands"] spAreStands := ⟨_, _, ok_are_stands F_are_stands x7 x8 x32 x34 x38, He.glo_ok X G (c.fact 39 (f := Oh.fo (.glo "are_stands")) rfl), F_are_stands.kp, bd_are_stands F_are_stands⟩
  obtain ⟨_, F_copied⟩ := c.def_ 21 (d := d_copied) rfl
  have x40 : Cal P w K mg base 1 "copied" ["stand"] spCopied := ⟨_, _, ok_copied F_copied x8 x5, He.glo_ok X G (c.fact 40 (f := Oh.fo (.glo "copied")) rfl), F_copied.kp, bd_copied F_copied⟩
  obtain ⟨_, F_is_ringless⟩ := c.def_ 22 (d := d_is_ringless) rfl
  have x41 : mg "all" = none := He.free_ok X G (c.fact 41 (f := Oh.fo (.free "all")) rfl)
  obtain ⟨_, F_leads⟩ := c.def_ 23 (d := d_leads) rfl
  have x42 : Cal P w K mg base 1 "leads" ["work", "stand"] (spLeads (He.ga K "Work")) := ⟨_, _, ok_leads F_leads x1 x28, He.glo_ok X G (c.fact 42 (f := Oh.fo (.glo "leads")) rfl), F_leads.kp, bd_leads F_leads⟩
  have x43 : Cal P w K mg base 2 "is_ringless" ["work"] (spRingless (He.ga K "Work")) := ⟨_, _, ok_is_ringless F_is_ringless x1 x4 x23 x41 x8 x42, He.glo_ok X G (c.fact 43 (f := Oh.fo (.glo "is_ringless")) rfl), F_is_ringless.kp, bd_is_ringless F_is_ringless⟩
  have x44 : Mkc P w K mg base (He.ga K "Work") 5 "Work" ["self", "hands", "start", "stands"] (spWorkInit (He.ga K "Work")) := ⟨_, _, He.mkr_ok (c.fact 44 (f := Oh.fo (.mkr "Work")) rfl), ok_Work_init F_Work_init x1 x27 x3 x28 x4 x29 x30 x5 x6 x33 x34 x39 x40 x43, He.glo_ok X G (c.fact 45 (f := Oh.fo (.glo "Work")) rfl), bd_Work_init F_Work_init⟩
  obtain ⟨_, F_l_spoil_told⟩ := c.def_ 24 (d := d_l_spoil_told) rfl
  have x45 : Cal P w K mg base 1 "_law_spoil_told" ["_law_stands_here"] spSpoil := ⟨_, _, ok_l_spoil_told F_l_spoil_told x23 x8, He.glo_ok X G (c.fact 46 (f := Oh.fo (.glo "_law_spoil_told")) rfl), F_l_spoil_told.kp, bd_l_spoil_told F_l_spoil_told⟩
  obtain ⟨_, F_Work_stands⟩ := c.def_ 25 (d := d_Work_stands) rfl
  have x46 : Prp P w K mg base (He.ga K "Work") 2 "stands" (spStandsP (He.ga K "Work")) := ⟨_, _, _, Oh.propB_ok (c.fact 47 (f := Oh.propB "Work" "stands") rfl), ok_Work_stands F_Work_stands x1 x28 x40, bd_Work_stands F_Work_stands⟩
  obtain ⟨_, F_Work_steps⟩ := c.def_ 26 (d := d_Work_steps) rfl
  obtain ⟨_, F_Work_row⟩ := c.def_ 27 (d := d_Work_row) rfl
  have x47 : Met P w K mg base (He.ga K "Work") 1 "row" ["self", "stand"] (spRow (He.ga K "Work")) := ⟨_, _, He.meth_ok (c.fact 48 (f := Oh.fo (.meth "Work" "row")) rfl), ok_Work_row F_Work_row x1 x28 x14 x32, bd_Work_row F_Work_row⟩
  have x48 : Met P w K mg base (He.ga K "Work") 2 "steps" ["self", "stand"] (spSteps (He.ga K "Work")) := ⟨_, _, He.meth_ok (c.fact 49 (f := Oh.fo (.meth "Work" "steps")) rfl), ok_Work_steps F_Work_steps x1 x8 x5 x47, bd_Work_steps F_Work_steps⟩
  obtain ⟨_, F_l_steps⟩ := c.def_ 28 (d := d_l_steps) rfl
  have x49 : Cal P w K mg base 1 "_law_steps" ["_law_stands_here", "_law_name"] spStepsL := ⟨_, _, ok_l_steps F_l_steps x5, He.glo_ok X G (c.fact 50 (f := Oh.fo (.glo "_law_steps")) rfl), F_l_steps.kp, bd_l_steps F_l_steps⟩
  obtain ⟨_, F_l_turned⟩ := c.def_ 29 (d := d_l_turned) rfl
  have x50 : Cal P w K mg base 1 "_law_turned" ["_law_stands_here"] spTurned := ⟨_, _, ok_l_turned F_l_turned x23 x8, He.glo_ok X G (c.fact 51 (f := Oh.fo (.glo "_law_turned")) rfl), F_l_turned.kp, bd_l_turned F_l_turned⟩
  obtain ⟨_, F_Work_eq⟩ := c.def_ 30 (d := d_Work_eq) rfl
  have x51 : Isc K (He.ga K "Work") := iscB_ok (c.fact 52 (f := iscB "Work") rfl)
  have x52 : PySem.W.kitOne K (.ref (He.ga K "Work")) (.ref (He.ga K "Work")) = some true := kitF_ok (c.fact 53 (f := kitF "Work" "Work" true) rfl)
  have x53 : mg "Work" = some (.ref (He.ga K "Work")) := He.glo_ok X G (c.fact 45 (f := Oh.fo (.glo "Work")) rfl)
  have x54 : Met P w K mg base (He.ga K "Work") 1 "__eq__" ["self", "other"] (spWorkEq (He.ga K "Work")) := ⟨_, _, He.meth_ok (c.fact 54 (f := Oh.fo (.meth "Work" "__eq__")) rfl), ok_Work_eq F_Work_eq x1 x51 x52 x53 x27 x3 x28 x32, bd_Work_eq F_Work_eq⟩
  obtain ⟨_, F_Wish_init⟩ := c.def_ 31 (d := d_Wish_init) rfl
  have x55 : NoAttr K (He.ga K "Wish") "table" := He.noat_ok (c.fact 55 (f := Oh.fo (.noat "Wish" "table")) rfl)
  have x56 : NoAttr K (He.ga K "Wish") "endless" := He.noat_ok (c.fact 56 (f := Oh.fo (.noat "Wish" "endless")) rfl)
  have x57 : NoAttr K (He.ga K "Wish") "coming" := He.noat_ok (c.fact 57 (f := Oh.fo (.noat "Wish" "coming")) rfl)
  obtain ⟨_, F_are_worths⟩ := c.def_ 32 (d := d_are_worths) rfl
  obtain ⟨_, F_is_value⟩ := c.def_ 33 (d := d_is_value) rfl
  have x58 : Cal P w K mg base 2 "is_value" ["thing"] (spIsValue K) := ⟨_, _, ok_is_value F_is_value x33, He.glo_ok X G (c.fact 58 (f := Oh.fo (.glo "is_value")) rfl), F_is_value.kp, bd_is_value F_is_value⟩
  have x59 : Cal P w K mg base 3 "are_worths" ["thing"] (spAreWorths K) := ⟨_, _, ok_are_worths F_are_worths x7 x8 x32 x34 x58, He.glo_ok X G (c.fact 59 (f := Oh.fo (.glo "are_worths")) rfl), F_are_worths.kp, bd_are_worths F_are_worths⟩
  have x60 : Mkc P w K mg base (He.ga K "Wish") 4 "Wish" ["self", "worths", "endless"] (spWishInit (He.ga K "Wish")) := ⟨_, _, He.mkr_ok (c.fact 60 (f := Oh.fo (.mkr "Wish")) rfl), ok_Wish_init F_Wish_init x2 x55 x56 x57 x23 x41 x5 x59 x58, He.glo_ok X G (c.fact 61 (f := Oh.fo (.glo "Wish")) rfl), bd_Wish_init F_Wish_init⟩
  obtain ⟨_, F_Wish_worths⟩ := c.def_ 34 (d := d_Wish_worths) rfl
  have x61 : Prp P w K mg base (He.ga K "Wish") 1 "worths" (spWorths (He.ga K "Wish")) := ⟨_, _, _, Oh.propB_ok (c.fact 62 (f := Oh.propB "Wish" "worths") rfl), ok_Wish_worths F_Wish_worths x2 x55, bd_Wish_worths F_Wish_worths⟩
  obtain ⟨_, F_Wish_eq⟩ := c.def_ 35 (d := d_Wish_eq) rfl
  have x62 : Isc K (He.ga K "Wish") := iscB_ok (c.fact 63 (f := iscB "Wish") rfl)
  have x63 : PySem.W.kitOne K (.ref (He.ga K "Wish")) (.ref (He.ga K "Wish")) = some true := kitF_ok (c.fact 64 (f := kitF "Wish" "Wish" true) rfl)
  have x64 : mg "Wish" = some (.ref (He.ga K "Wish")) := He.glo_ok X G (c.fact 61 (f := Oh.fo (.glo "Wish")) rfl)
  have x65 : Met P w K mg base (He.ga K "Wish") 1 "__eq__" ["self", "other"] (spWishEqB (He.ga K "Wish")) := ⟨_, _, He.meth_ok (c.fact 65 (f := Oh.fo (.meth "Wish" "__eq__")) rfl), ok_Wish_eqB F_Wish_eq x2 x62 x63 x64 x55 x56 x32, bd_Wish_eq F_Wish_eq⟩
  obtain ⟨_, F_l_backwards⟩ := c.def_ 36 (d := d_l_backwards) rfl
  have x66 : Cal P w K mg base 1 "_law_backwards" ["_law_wanted"] spBackL := ⟨_, _, ok_l_backwards F_l_backwards x23, He.glo_ok X G (c.fact 66 (f := Oh.fo (.glo "_law_backwards")) rfl), F_l_backwards.kp, bd_l_backwards F_l_backwards⟩
  obtain ⟨_, F_l_mirror⟩ := c.def_ 37 (d := d_l_mirror) rfl
  have x67 : Cal P w K mg base 1 "_law_mirror" ["_law_wanted"] spMirrorL := ⟨_, _, ok_l_mirror F_l_mirror , He.glo_ok X G (c.fact 67 (f := Oh.fo (.glo "_law_mirror")) rfl), F_l_mirror.kp, bd_l_mirror F_l_mirror⟩
  obtain ⟨_, F_l_other_wishes⟩ := c.def_ 38 (d := d_l_other_wishes) rfl
  have x68 : Cal P w K mg base 3 "_law_other_wishes" ["_law_pool_here", "_law_wanted", "_law_endless_here"] spOtherW := ⟨_, _, ok_l_other_wishes F_l_other_wishes x23 x8 x7 x41 x11 x14 x13 x15, He.glo_ok X G (c.fact 68 (f := Oh.fo (.glo "_law_other_wishes")) rfl), F_l_other_wishes.kp, bd_l_other_wishes F_l_other_wishes⟩
  exact ok_law F_law x1 x2 x3 x4 x5 x6 x7 x12 x22 x26 x24 x44 x45 x46 x48 x49 x50 x54 x60 x61 x65 x66 x67 x68
end Law
open PySem PySem.W PySem.Calls PyProof.Rows
theorem PySem.Challenge.cw_ownslips_k09_copies_holds : PySem.Challenge.rw_ownslips_k09_copies.Holds := by
  refine Law.hz0 ?_
  refine HandSHeadRun.head_any (r := OpenLaw.row PySem.Challenge.rw_ownslips_k09_copies) (q := view (PySem.W.OpenLaw.row PySem.Challenge.rw_ownslips_k09_copies).prog [43]) (H := Law.hk) (ob := Law.ob) (M := 6000) (loose := Law.loA) (d := HandSHeadRun.topDef (PySem.W.OpenLaw.row PySem.Challenge.rw_ownslips_k09_copies).prog 43) (kwd := []) Law.ob_eq
    Law.hz1 Law.hz2 Law.run Law.hz3 Law.hz4 Law.hz5 Law.hz6 Law.hz7 Law.hz8 Law.hz9 Law.hz10 ?hc
  case hc =>
    refine L2.walk_ofE (l := PySem.Challenge.rw_ownslips_k09_copies) (n := 63) (k := 8) (x := "_law_script") (CX := L2.CX0) rfl (by decide) (by kernel_rfl) ⟨rfl, by decide, by decide⟩ ?F (fun _ _ _ _ z => z)
    intro w mg fa h Y G hmg0
    obtain ⟨K, KX, c⟩ := Y
    have hmg : mg ("law" : PySem.Str) = some (.ref fa) := by
      have e : (HandSHeadRun.topDef (PySem.W.OpenLaw.row PySem.Challenge.rw_ownslips_k09_copies).prog 43).name = ("law" : PySem.Str) := by kernel_rfl
      rw [← e]
      exact hmg0
    obtain ⟨fd, hb, hF⟩ := Law.facts (P := (PySem.Challenge.rw_ownslips_k09_copies).prog) (w := w) KX G hmg c
    exact ⟨K, fd, Law.spLaw K, KX, hb, fun H a ns hl _ hS => ⟨a, ns, rfl, hS, hl, fun _ => rfl⟩, hF⟩
