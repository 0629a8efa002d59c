import PyProof.Rows.All
import Wide.All
import OpenK.AllK
import Wide.FinOn
import HandS.ForMost
import HandS.Defaults
import HandS.Head0
import HandS.Head1
import HandS.Head2
import HandS.HeadEnd
import HandS.HeadHook1
import HandS.HeadHook2
import HandS.Property
import PyProof.Rows.RuleB_pow
import PyProof.Rows.SortShellAny
import HandS.TryOnly
import HandS.Wide
import HandS.Walk
import HandS.IsInst
import HandS.DictComp
import HandS.Style
import HandS.Flow
import HandS.TupAny
import HandS.ListItems
import HandS.Conv
import HandS.OwnEq
import KE.GoesMore
import KE.GoesEnum
import HandS.Iter
import HandS.SortKw
import HandS.More
import HandS.Finally
import KE.KDictSum
import HandS.SortRule
import HandS.SortOrd
import KE.KSortTup
import PyProof.ReprRoads
import HandS.Dict
import HandS.WordsExc
import HandS.ExcIs
import HandS.ExcField
import KE.KExcSuper
import KE.KSuper
import HandS.ExcInit
import HandS.TryMany
import KE.KEqNest
import HandS.FStr
import KE.KExcIs
import PyProof.StrOps2
import PySem.Challenge.RW_ownslips_k93_fraction_texts
set_option Elab.async false
set_option linter.all false
set_option maxRecDepth 100000
set_option maxHeartbeats 4000000
/-! Own hook: facts are any Bool of the written part, defs stand at any address that the written part tells. -/
namespace Oh
open PySem PySem.Spec PyProof.Rows L2
abbrev Frag := PySem.W.Frag
/-- a def: where it stands and its text -/
structure Dd where
  spot : Frag → Addr
  name : Str
  qual : Str
  st : Stmt
def Dd.fnd (d : Dd) (K : Frag) : He.FnW := (K.lookup (d.spot K)).bind fun o => match o.data with
  | .func fd => some (fd.name, fd.qualname, fd.params, fd.body, fd.scope, fd.globals, fd.closure, fd.builtins)
  | _ => none
def Dd.due (d : Dd) : He.FnW := some (d.name, d.qual, defArgs d.st, .stmts (defBody d.st), defScope d.st, mainGlobals, [], builtinsNs)
def isNon : Value → Bool
  | .none => true
  | _ => false
def Dd.good (d : Dd) (K : Frag) : Bool := match K.lookup (d.spot K) with
  | some o => (match o.data with
    | .func fd => PySem.W.keepIn K (.ref (d.spot K)) && (PySem.W.codeIn K fd.code d.qual && isNon fd.defaults)
    | _ => false)
  | none => false
theorem Dd.fun_ {d : Dd} {K : Frag} (e : d.fnd K = d.due) (g : d.good K = true) : ∃ fd, Fun K d.name d.qual d.st (d.spot K) fd := by
  unfold Dd.fnd at e
  unfold Dd.good at g
  cases q : K.lookup (d.spot K) with
  | none => rw [q] at g; cases g
  | some o =>
    obtain ⟨oc, od, dt, osl⟩ := o
    rw [q] at e g
    cases dt with
    | func fd =>
      obtain ⟨n1, n2, n3, n4, n5, n6, n7, n8, n9, n10, n11, n12, n13, n14, n15⟩ := fd
      have e2 : (some (n1, n2, n3, n4, n5, n6, n7, n15) : He.FnW) = some (d.name, d.qual, defArgs d.st, .stmts (defBody d.st), defScope d.st, mainGlobals, [], builtinsNs) := e
      have g2 : (PySem.W.keepIn K (.ref (d.spot K)) && (PySem.W.codeIn K n13 d.qual && isNon n8)) = true := g
      obtain ⟨g3, g4⟩ := Bool.and_eq_true_iff.mp g2
      obtain ⟨g5, g6⟩ := Bool.and_eq_true_iff.mp g4
      have e8 : n8 = .none := by
        cases n8 with
        | none => rfl
        | _ => cases g6
      simp only [Option.some.injEq, Prod.mk.injEq] at e2
      obtain ⟨h1, h2, h3, h4, h5, h6, h7, h8⟩ := e2
      subst h1 h2 h3 h4 h5 h6 h7 h8 e8
      exact ⟨_, ⟨oc, od, n9, n10, n11, n12, n13, n14, osl, rfl, q, g5⟩, g3⟩
    | _ => cases g
abbrev Ob : Type := Bool × List He.FnW
def see (fa : List (Frag → Bool)) (ds : List Dd) (K : Frag) : Ob := ((fa.all fun f => f K) && ds.all fun d => d.good K, ds.map fun d => d.fnd K)
def want (ds : List Dd) : Ob := (true, ds.map Dd.due)
def Told (fa : List (Frag → Bool)) (ds : List Dd) (K : Frag) : Prop := see fa ds K = want ds
def seeG (n : Nat) (fa : List (Frag → Bool)) (ds : List Dd) (g : Addr → Option Obj) : Ob := see fa ds (He.frG g (He.asD g n))
def hook (n : Nat) (fa : List (Frag → Bool)) (ds : List Dd) : PySem.W.Hook where
  α := Ob
  obs := fun s => seeG n fa ds s.heap.get?
  val := fun _ => want ds
  says := fun _ h => ∃ K : Frag, K.In h ∧ Told fa ds K
  of := fun _ _ e => ⟨_, He.frG_in, e⟩
  keeps := fun _ _ _ ⟨K, hK, c⟩ k => ⟨K, PySem.W.Frag.In.keeps hK k, c⟩
def obT (n : Nat) (fa : List (Frag → Bool)) (ds : List Dd) (s : PySem.W.SharedT) : Ob := seeG n fa ds (HandSHeadRun.getT s)
theorem obT_eq {n : Nat} {fa : List (Frag → Bool)} {ds : List Dd} (s : PySem.W.SharedT) : obT n fa ds s = (hook n fa ds).obs s.abs := by
  have e : HandSHeadRun.getT s = s.abs.heap.get? := funext (HandSHeadRun.getT_eq s)
  show seeG n fa ds (HandSHeadRun.getT s) = seeG n fa ds s.abs.heap.get?
  rw [e]
section
variable {fa : List (Frag → Bool)} {ds : List Dd} {K : Frag}
theorem Told.fact (c : Told fa ds K) (i : Nat) {f : Frag → Bool} (h : fa[i]? = some f) : f K = true := by
  have c1 := congrArg (fun z : Ob => z.1) c
  have c2 := (Bool.and_eq_true_iff.mp (show ((fa.all fun f => f K) && ds.all fun d => d.good K) = true from c1)).1
  exact List.all_eq_true.mp c2 f (List.mem_of_getElem? h)
theorem Told.def_ (c : Told fa ds K) (i : Nat) {d : Dd} (h : ds[i]? = some d) : ∃ fd, Fun K d.name d.qual d.st (d.spot K) fd := by
  have c1 := congrArg (fun z : Ob => z.1) c
  have c2 := (Bool.and_eq_true_iff.mp (show ((fa.all fun f => f K) && ds.all fun d => d.good K) = true from c1)).2
  have e : ds.map (fun d => d.fnd K) = ds.map Dd.due := congrArg (fun z : Ob => z.2) c
  have e2 : (ds.map fun d => d.fnd K)[i]? = (ds.map Dd.due)[i]? := by rw [e]
  rw [List.getElem?_map, List.getElem?_map, h] at e2
  exact Dd.fun_ (Option.some.inj e2) (List.all_eq_true.mp c2 d (List.mem_of_getElem? h))
end
/-! facts -/
def fo (f : He.Fa) : Frag → Bool := fun K => f.ok K
/-- the property's getter -/
def ga2 (K : Frag) (C f : Str) : Addr := match PySem.W.recIn K (He.ma K (He.ga K C) f) "property" with
  | some (.ref g :: _) => g
  | _ => 0
def isRefHd (o : Option (List Value)) (g : Addr) : Bool := match o with
  | some (.ref h :: _) => decide (h = g)
  | _ => false
/-- the class C has the name f as a property -/
def propB (C f : Str) : Frag → Bool := fun K => He.eqO (PySem.W.findIn K (.ref (He.ga K C)) f) (some (some (.ref (He.ma K (He.ga K C) f)))) &&
  (He.eqO (PySem.W.specialIn K (.ref (He.ma K (He.ga K C) f)) "__get__") (some (some (.builtin "property.__get__"))) &&
  (decide (PySem.W.takesIn K (.ref (He.ma K (He.ga K C) f)) = some true) && isRefHd (PySem.W.recIn K (He.ma K (He.ga K C) f) "property") (ga2 K C f)))
theorem propB_ok {C f : Str} {K : Frag} (h : propB C f K = true) : PropOf K (He.ga K C) f (He.ma K (He.ga K C) f) (ga2 K C f) := by
  obtain ⟨h1, h⟩ := Bool.and_eq_true_iff.mp h
  obtain ⟨h2, h⟩ := Bool.and_eq_true_iff.mp h
  obtain ⟨h3, h4⟩ := Bool.and_eq_true_iff.mp h
  refine ⟨He.eqO_ok h1, He.eqO_ok h2, of_decide_eq_true h3, ?_⟩
  unfold isRefHd at h4
  cases q : PySem.W.recIn K (He.ma K (He.ga K C) f) "property" with
  | none => rw [q] at h4; cases h4
  | some l =>
    rw [q] at h4
    cases l with
    | nil => cases h4
    | cons v r =>
      cases v with
      | ref g =>
        have e : g = ga2 K C f := of_decide_eq_true h4
        exact ⟨r, by rw [e]⟩
      | _ => cases h4
/-- how the law's def binds, at every heap -/
theorem bindsA {K : Frag} {x qual : Str} {st : Stmt} {f : Addr} {fd : FuncData} {ps : List Str} (F : Fun K x qual st f fd)
    (h : ∀ (kV doc pm : Value) (an : Option Addr) (cdv ct : Value) (us : List Value), us.length = ps.length → bindArgs (PySem.W.fnOf x qual (defArgs st) (defBody st) (defScope st) .none kV doc pm an cdv ct) ⟨us, []⟩ = pure (ps.zip us))
    (s : Shared) (us : List Value) (hl : us.length = ps.length) : BindsTo s fd ⟨us, []⟩ (ps.zip us) := by
  obtain ⟨_, _, kV, doc, pm, an, cdv, ct, _, e, _⟩ := F.ex
  subst e
  exact BindsTo.of_eq (h kV doc pm an cdv ct us hl)
end Oh

/-! Own layer: steps through a reading, one small lemma a construct, so that a tactic can take them by the goal's head. -/
namespace Ox
open PySem PySem.Spec PyProof.Rows L2
/-! ### further operators -/
section
variable {X : Cx}
theorem op_mulA : OpR X (binaryOp .Mult) (rI IntMulOk fun i j => .int (i * j)) := opI fun _ _ _ _ _ _ _ hc q => mul_int q hc
theorem op_fdivA : OpR X (binaryOp .FloorDiv) (rI CDivW fun i j => .int (i / j)) := op_fdivW
def CPowW (i j : Int) : Prop := 0 ≤ j ∧ (Builtin.Int.intBits i : Int) * j ≤ 2 ^ 27
theorem op_powW : OpR X (binaryOp .Pow) (rI CPowW fun i j => .int (i ^ j.toNat)) := opI fun _ _ _ _ _ _ _ hc q => pow_int hc.1 hc.2 q
end
theorem mulok_l {i j : Int} (h1 : -(2 ^ 63) ≤ i) (h2 : i < 2 ^ 63) : IntMulOk i j := CMul.ok (.inl ⟨by omega, by omega⟩)
theorem mulok_r {i j : Int} (h1 : -(2 ^ 63) ≤ j) (h2 : j < 2 ^ 63) : IntMulOk i j := CMul.ok (.inr ⟨by omega, by omega⟩)
theorem divok {i j : Int} (h : 0 < j) (h2 : j < 2 ^ 62) : CDivW i j := wide_div (b := 62) h (by omega) (by decide) (by decide)
/-! ### callees -/
section
variable (P : Program) (w : World) (K : PySem.W.Frag) (mg : Str → Option Value) (base : Heap)
/-- the module's name x is a def of level k that keeps the promise sp -/
structure Cal (k : Nat) (x : Str) (ps : List Str) (sp : Sp) : Prop where
  ex : ∃ f fd, FnOk P w K mg base CX0 k f fd ps sp ∧ mg x = some (.ref f) ∧ PySem.W.keepIn K (.ref f) = true ∧ Binds K fd ps []
/-- the module's name x is the class at C, made by an __init__ of level k -/
structure Mkc (C : Addr) (k : Nat) (x : Str) (ps : List Str) (sp : Sp) : Prop where
  ex : ∃ f fd, Mk K C f ∧ FnOk P w K mg base CX0 k f fd ps sp ∧ mg x = some (.ref C) ∧ Binds K fd ps []
structure Met (C : Addr) (k : Nat) (m : Str) (ps : List Str) (sp : Sp) : Prop where
  ex : ∃ f fd, Meth K C m f ∧ FnOk P w K mg base CX0 k f fd ps sp ∧ Binds K fd ps []
structure Prp (C : Addr) (k : Nat) (m : Str) (sp : Sp) : Prop where
  ex : ∃ p f fd, PropOf K C m p f ∧ FnOk P w K mg base CX0 k f fd ["self"] sp ∧ Binds K fd ["self"] []
end
section
variable {X : Cx} {k : Nat} {x : Str} {ps : List Str} {sp : Sp} {e : Expr} {es : List Expr} {t : TA} {pos p : Pos} {C : Addr} {ta : TE} {m : Str}
theorem pe_cal (c : Cal X.prog X.w X.K X.mg X.base k x ps sp) (hr : Room k X.A) (hg : Gl X x) (ha : PA X (e :: es) t)
    (hs : starEach (e :: es) X.env = (false, eval e X.env) :: starEach es X.env := by rfl) (hp : (backTo pos (starEach es X.env)).any (·.1) = false := by rfl)
    (hdb : (x == ("__debug__" : Str)) = false := by decide) : PE X (.Call (.Name x p) (e :: es) [] pos) (tCall sp [] E0 t) := by
  obtain ⟨f, fd, F, g, kp, b⟩ := c.ex
  exact pe_call F hr hg g kp b .nil pass0 ha hdb hs hp
theorem pe_cal0 (c : Cal X.prog X.w X.K X.mg X.base k x ps sp) (hr : Room k X.A) (hg : Gl X x)
    (hdb : (x == ("__debug__" : Str)) = false := by decide) : PE X (.Call (.Name x p) [] [] pos) (tCall sp [] E0 tNil) := by
  obtain ⟨f, fd, F, g, kp, b⟩ := c.ex
  exact pe_call0 F hr hg g kp b .nil pass0 hdb
theorem pe_mk (c : Mkc X.prog X.w X.K X.mg X.base C k x ps sp) (hr : Room (k + 1) X.A) (hg : Gl X x) (ha : PA X (e :: es) t)
    (hs : starEach (e :: es) X.env = (false, eval e X.env) :: starEach es X.env := by rfl) (hp : (backTo pos (starEach es X.env)).any (·.1) = false := by rfl)
    (hdb : (x == ("__debug__" : Str)) = false := by decide) : PE X (.Call (.Name x p) (e :: es) [] pos) (tMake C sp [] E0 t) := by
  obtain ⟨f, fd, M, F, g, b⟩ := c.ex
  exact pe_make M F hr hg g b .nil pass0 ha hdb hs hp
theorem pe_prp {p' : Expr} (c : Prp X.prog X.w X.K X.mg X.base C k m sp) (kc : Cls X.K C) (hr : Room (k + 1) X.A) (he : PE X p' ta)
    (hab : attributeBase p' m X.env (eval p' X.env) = eval p' X.env := by rfl) : PE X (.Attribute p' m pos) (tProp C sp [] E0 ta) := by
  obtain ⟨q, f, fd, hp, F, b⟩ := c.ex
  exact pe_prop he kc hp F hr b .nil pass0 hab
end
/-! ### steps -/
section
variable {σ : L2.St} {H : Hp} {Q : VK} {i : Nat} {v x y : V} {ta tb te tc : TE} {n : L2.St → Hp → Prop} {r : VK} {b c : L2.St → Hp → Prop} {t u : TS} {tt tu : TT} {R : Bool → Hp → Prop} {K : PySem.W.Frag} {al : TA} {W : List V → Hp → Prop}
theorem x_var (h : σ[i]? = some (some v)) (q : Q v H) : tVar i σ H Q := ⟨v, h, q⟩
theorem x_c (q : Q v H) : tC v σ H Q := q
theorem x_op {o : R2} (q : ta σ H fun x H1 => tb σ H1 fun y H2 => o x y H2 Q) : tOp o ta tb σ H Q := q
theorem x_un {o : V → Hp → VK → Prop} (q : ta σ H fun x H1 => o x H1 Q) : tUn o ta σ H Q := q
theorem x_I0 {g : Int → Int → V} {i j : Int} (q : Q (g i j) H) : rI0 g (.int i) (.int j) H Q := ⟨i, j, rfl, rfl, q⟩
theorem x_I {C : Int → Int → Prop} {g : Int → Int → V} {i j : Int} (hc : C i j) (q : Q (g i j) H) : rI C g (.int i) (.int j) H Q := ⟨i, j, rfl, rfl, hc, q⟩
theorem x_U {g : Int → V} {i : Int} (q : Q (g i) H) : rU g (.int i) H Q := ⟨i, rfl, q⟩
theorem x_eqI {i j : Int} (q : Q (.bl (decide (i = j))) H) : rEq (.int i) (.int j) H Q := ⟨rfl, by rw [show decide (V.int i = V.int j) = decide (i = j) from by simp]; exact q⟩
theorem x_eqS {i j : Str} (q : Q (.bl (decide (i = j))) H) : rEq (.str i) (.str j) H Q := ⟨rfl, by rw [show decide (V.str i = V.str j) = decide (i = j) from by simp]; exact q⟩
theorem x_eqB {i j : Bool} (q : Q (.bl (decide (i = j))) H) : rEq (.bl i) (.bl j) H Q := ⟨rfl, by rw [show decide (V.bl i = V.bl j) = decide (i = j) from by simp]; exact q⟩
theorem x_neI {i j : Int} (q : Q (.bl (!decide (i = j))) H) : rNe (.int i) (.int j) H Q := ⟨rfl, by rw [show decide (V.int i = V.int j) = decide (i = j) from by simp]; exact q⟩
theorem x_neS {i j : Str} (q : Q (.bl (!decide (i = j))) H) : rNe (.str i) (.str j) H Q := ⟨rfl, by rw [show decide (V.str i = V.str j) = decide (i = j) from by simp]; exact q⟩
theorem x_neB {i j : Bool} (q : Q (.bl (!decide (i = j))) H) : rNe (.bl i) (.bl j) H Q := ⟨rfl, by rw [show decide (V.bl i = V.bl j) = decide (i = j) from by simp]; exact q⟩
theorem x_bl {k : Bool} (q : R k H) : ∃ c, V.bl k = V.bl c ∧ R c H := ⟨k, rfl, q⟩
theorem x_test (q : te σ H fun x H1 => ∃ k, x = .bl k ∧ R k H1) : tTest te σ H R := q
theorem x_B (q : te σ H fun x H1 => ∃ k, x = .bl k ∧ R k H1) : tB te σ H R := q
theorem x_not (q : tt σ H fun c H1 => R (!c) H1) : tNot tt σ H R := q
theorem x_and (q : tt σ H fun c H1 => if c = true then tu σ H1 R else R false H1) : tAnd tt tu σ H R := q
theorem x_or (q : tt σ H fun c H1 => if c = true then R true H1 else tu σ H1 R) : tOr tt tu σ H R := q
theorem x_andV (q : ta σ H fun x H1 => ∃ c, x = .bl c ∧ if c = true then tb σ H1 Q else Q (.bl false) H1) : tAndV ta tb σ H Q := q
theorem x_orV (q : ta σ H fun x H1 => ∃ c, x = .bl c ∧ if c = true then Q (.bl true) H1 else tb σ H1 Q) : tOrV ta tb σ H Q := q
theorem x_notV (q : ta σ H fun x H1 => ∃ c, x = .bl c ∧ Q (.bl (!c)) H1) : tNotV ta σ H Q := q
theorem x_blV {k : Bool} {F : Bool → Prop} (q : F k) : ∃ c, V.bl k = V.bl c ∧ F c := ⟨k, rfl, q⟩
theorem x_ifE (q : tt σ H fun c H1 => if c = true then ta σ H1 Q else tb σ H1 Q) : tIf tt ta tb σ H Q := q
theorem x_chain {o o' : R2} (q : ta σ H fun x H1 => tb σ H1 fun y H2 => o x y H2 fun z H3 => ∃ k, z = .bl k ∧ (if k = true then tc σ H3 fun w' H4 => o' y w' H4 Q else Q (.bl false) H3)) : tChain o o' ta tb tc σ H Q := q
theorem x_nil (q : W [] H) : tNil σ H W := q
theorem x_cons {ar : TA} (q : ta σ H fun x H1 => ar σ H1 fun xs H2 => W (x :: xs) H2) : tCons ta ar σ H W := q
theorem x_tup (q : al σ H fun xs H1 => xs.length ≤ sizeLine ∧ ∀ p, H1 p = none → Q (.ref p) (upd H1 p (.tup xs))) : tTup al σ H Q := q
theorem x_lst (q : al σ H fun xs H1 => xs.length ≤ sizeLine ∧ ∀ p, H1 p = none → Q (.ref p) (upd H1 p (.lst xs))) : tLst al σ H Q := q
theorem x_cb {o : List V → Hp → VK → Prop} (q : al σ H fun vs H1 => o vs H1 Q) : tCB o al σ H Q := q
theorem x_call {sp : Sp} {E : XK} (q : al σ H fun vs H1 => sp vs H1 Q E) : tCall sp [] E al σ H Q := by
  show al σ H fun vs H1 => sp (vs ++ []) H1 Q E
  have e : (fun (vs : List V) (H1 : Hp) => sp (vs ++ []) H1 Q E) = fun vs H1 => sp vs H1 Q E := by
    funext vs H1
    rw [List.append_nil]
  rw [e]
  exact q
theorem x_make {C : Addr} {sp : Sp} {E : XK} (q : al σ H fun vs H1 => ∀ x dx, H1 x = none → H1 dx = none → dx ≠ x → sp (.ref x :: vs) (upd (upd H1 dx (.own x)) x (.ins C dx [])) (fun v H2 => v = .non ∧ Q (.ref x) H2) E) : tMake C sp [] E al σ H Q := by
  have e : (fun (vs : List V) (H1 : Hp) => ∀ x dx, H1 x = none → H1 dx = none → dx ≠ x → sp (.ref x :: (vs ++ [])) (upd (upd H1 dx (.own x)) x (.ins C dx [])) (fun v H2 => v = .non ∧ Q (.ref x) H2) E) =
      fun (vs : List V) (H1 : Hp) => ∀ x dx, H1 x = none → H1 dx = none → dx ≠ x → sp (.ref x :: vs) (upd (upd H1 dx (.own x)) x (.ins C dx [])) (fun v H2 => v = .non ∧ Q (.ref x) H2) E := by
    funext vs H1
    rw [List.append_nil]
  show al σ H fun vs H1 => ∀ x dx, H1 x = none → H1 dx = none → dx ≠ x → sp (.ref x :: (vs ++ [])) (upd (upd H1 dx (.own x)) x (.ins C dx [])) (fun v H2 => v = .non ∧ Q (.ref x) H2) E
  rw [e]
  exact q
/-! ### statements -/
theorem x_seq (h : t ⟨u ⟨n, r, b, c⟩, r, b, c⟩ σ H) : tSeq t u ⟨n, r, b, c⟩ σ H := h
theorem x_next (h : n σ H) : tNext ⟨n, r, b, c⟩ σ H := h
theorem x_brk (h : b σ H) : tBreak ⟨n, r, b, c⟩ σ H := h
theorem x_cont (h : c σ H) : tCont ⟨n, r, b, c⟩ σ H := h
theorem x_ret (h : te σ H r) : tRet te ⟨n, r, b, c⟩ σ H := h
theorem x_retN (h : r .non H) : tRetN ⟨n, r, b, c⟩ σ H := h
theorem x_drop (h : te σ H fun _ H1 => n σ H1) : tDrop te ⟨n, r, b, c⟩ σ H := h
theorem x_set (h : te σ H fun v H1 => n (σ.set i (some v)) H1) : tAsg te (gName i) ⟨n, r, b, c⟩ σ H := h
theorem x_if (h : tt σ H fun k H1 => if k = true then t ⟨n, r, b, c⟩ σ H1 else u ⟨n, r, b, c⟩ σ H1) : tIfS tt t u ⟨n, r, b, c⟩ σ H := h
theorem x_nx (h : n σ H) : (Ends.mk n r b c).nx σ H := h
theorem x_par {i j : Nat} (h : al σ H fun vs H1 => ∃ v w, vs = [v, w] ∧ n ((σ.set i (some v)).set j (some w)) H1) : tPar i j al ⟨n, r, b, c⟩ σ H := h
theorem x_par2 {F : V → V → Prop} {v w : V} (h : F v w) : ∃ v' w', [v, w] = [v', w'] ∧ F v' w' := ⟨v, w, rfl, h⟩
theorem x_aug {j : Nat} {tip : TIp} (hx : σ[j]? = some (some x)) (h : te σ H fun y H1 => tip x y H1 fun z H2 => n (σ.set j (some z)) H2) : tAug j te tip ⟨n, r, b, c⟩ σ H := ⟨x, hx, h⟩
theorem x_ipI {f : Int → Int → Int} {i j : Int} (q : Q (.int (f i j)) H) : ipI f (.int i) (.int j) H Q := ⟨i, j, rfl, rfl, q⟩
/-- xs[i] = v -/
theorem x_setL (h : te σ H fun v H0 => ta σ H0 fun o H1 => tb σ H1 fun k H2 => rSetL o k v H2 fun H3 => n σ H3) : tAsg te (gSub ta tb rSetL) ⟨n, r, b, c⟩ σ H := h
theorem x_setl {l : Addr} {xs : List V} {j : Nat} {k : Int} {N : Hp → Prop} (h : H l = some (.lst xs)) (hk : k = (j : Int)) (hj : j < xs.length) (q : N (upd H l (.lst (xs.set j v)))) : rSetL (.ref l) (.int k) v H N :=
  ⟨l, xs, k, j, rfl, rfl, h, by subst hk; unfold ixN; rw [if_pos (by omega), if_pos (by omega)]; simp, q⟩
/-- a test decided -/
theorem x_ite {A B : Prop} {k : Bool} (h1 : k = true → A) (h2 : k = false → B) : if k = true then A else B := by
  cases k with
  | true => exact h1 rfl
  | false =>
    show if false = true then A else B
    rw [if_neg Bool.false_ne_true]
    exact h2 rfl
theorem x_dec {A B p : Prop} [Decidable p] (h1 : p → A) (h2 : ¬ p → B) : if decide p = true then A else B := x_ite (fun e => h1 (of_decide_eq_true e)) fun e => h2 (of_decide_eq_false e)
theorem x_ndec {A B p : Prop} [Decidable p] (h1 : ¬ p → A) (h2 : p → B) : if (!decide p) = true then A else B := x_ite (fun e => h1 (of_decide_eq_false (by simpa using e))) fun e => h2 (of_decide_eq_true (by simpa using e))
theorem x_yes {A B p : Prop} [Decidable p] (hp : p) (h1 : A) : if decide p = true then A else B := x_dec (fun _ => h1) fun z => absurd hp z
theorem x_no {A B p : Prop} [Decidable p] (hp : ¬ p) (h2 : B) : if decide p = true then A else B := x_dec (fun z => absurd z hp) fun _ => h2
theorem x_T {A B : Prop} (h : A) : if true = true then A else B := x_ite (fun _ => h) fun z => by cases z
theorem x_F {A B : Prop} (h : B) : if false = true then A else B := x_ite (fun z => by cases z) fun _ => h
theorem x_nT {A B : Prop} (h : B) : if (!true) = true then A else B := x_F h
theorem x_nF {A B : Prop} (h : A) : if (!false) = true then A else B := x_T h
theorem x_nyes {A B p : Prop} [Decidable p] (hp : p) (h2 : B) : if (!decide p) = true then A else B := x_ndec (fun z => absurd hp z) fun _ => h2
theorem x_nno {A B p : Prop} [Decidable p] (hp : ¬ p) (h1 : A) : if (!decide p) = true then A else B := x_ndec (fun _ => h1) fun z => absurd z hp
/-! ### values of built-ins -/
theorem x_ixL {p : Addr} {xs : List V} {k : Int} (h : SqL K H p xs) (ha : atI xs k = some v) (q : Q v H) : rIxL K (.ref p) (.int k) H Q := ⟨p, xs, k, v, rfl, rfl, h, ha, q⟩
theorem x_ixT {p : Addr} {xs : List V} {k : Int} (h : SqT K H p xs) (ha : atI xs k = some v) (q : Q v H) : rIxT K (.ref p) (.int k) H Q := ⟨p, xs, k, v, rfl, rfl, h, ha, q⟩
theorem x_ixS {z : Str} {k : Int} {d : Nat} (h : z.length ≤ sizeLine) (ha : atI z.cps.toList k = some d) (q : Q (.str ⟨#[d]⟩) H) : rIxS (.str z) (.int k) H Q := ⟨z, k, d, rfl, rfl, h, ha, q⟩
theorem x_bm {T : String} {o : V → List V → Hp → VK → Prop} (q : ta σ H fun x H1 => tyV K T x H1 ∧ al σ H1 fun xs H2 => o x xs H2 Q) : tBM K T o ta al σ H Q := q
theorem x_bm0 {T : String} {o : V → List V → Hp → VK → Prop} (q : ta σ H fun x H1 => tyV K T x H1 ∧ o x [] H1 Q) : tBM0 K T o ta σ H Q := q
theorem x_tyL {p : Addr} {xs : List V} {A : Prop} (h : SqL K H p xs) (q : A) : tyV K "list" (.ref p) H ∧ A := ⟨.inl ⟨rfl, xs, h⟩, q⟩
theorem x_app {l : Addr} {xs : List V} (h : H l = some (.lst xs)) (hl : xs.length < sizeLine) (q : Q .non (upd H l (.lst (xs ++ [y])))) : rAppend (.ref l) [y] H Q := ⟨l, xs, y, rfl, rfl, h, hl, q⟩
theorem x_popAt {l : Addr} {xs : List V} {j : Nat} {k : Int} (h : H l = some (.lst xs)) (hk : k = (j : Int)) (hj : xs[j]? = some y) (hs : xs.length ≤ 10000) (q : Q y (upd H l (.lst (xs.eraseIdx j)))) : rPopAt (.ref l) [.int k] H Q := by
  have hlt : j < xs.length := (List.getElem?_eq_some_iff.mp hj).1
  subst hk
  refine ⟨l, xs, _, j, y, rfl, rfl, h, by omega, by omega, ?_, hj, q⟩
  unfold seqIndex?
  first
    | (rw [if_neg (by omega), if_pos (by omega)]; simp)
    | (simp; omega)
    | (simp [hlt])
end
/-! ### loops, each by a word over turn, slots and heap -/
section
variable {σ : L2.St} {H : Hp} {te : TE} {n : L2.St → Hp → Prop} {r : VK} {b c : L2.St → Hp → Prop} {tb : TS} {g : TG} {K : PySem.W.Frag} {al : TA} {p : Addr}
/-- the loop over what J tells -/
def Lp (J : It) (g : TG) (tb : TS) (D : Ends) (σ : L2.St) (H : Hp) : Prop := ∃ W : Nat → Nat → L2.St → Hp → Prop, (∃ m, W 0 m σ H) ∧ ∀ i m σ H, W i m σ H →
  (J.stop i H ∧ D.nx σ H) ∨ (J.go i H ∧ ∃ N : L2.St → Hp → Prop, (∀ σ' H', N σ' H' → ∃ m', m' < m ∧ W (i + 1) m' σ' H') ∧ ∀ x H', J.yld i H x H' → g x σ H' fun σ2 H2 => tb { D with nx := N, ct := N, bk := D.nx } σ2 H2)
def LpL (K : PySem.W.Frag) (g : TG) (tb : TS) (D : Ends) (σ : L2.St) (x : V) (H : Hp) : Prop := ∃ a, x = .ref a ∧ (∃ xs, SqL K H a xs) ∧ Lp (Itl K a) g tb D σ H
def LpT (K : PySem.W.Frag) (g : TG) (tb : TS) (D : Ends) (σ : L2.St) (x : V) (H : Hp) : Prop := ∃ a, x = .ref a ∧ (∃ xs, SqT K H a xs) ∧ Lp (Itt K a) g tb D σ H
def LpR (g : TG) (tb : TS) (D : Ends) (σ : L2.St) (vs : List V) (H : Hp) : Prop := ∃ j : Int, vs = [.int j] ∧ -(2 ^ 62) ≤ j ∧ j < 2 ^ 62 ∧ Lp (Itr 0 j.toNat) g tb D σ H
def LpR2 (g : TG) (tb : TS) (D : Ends) (σ : L2.St) (vs : List V) (H : Hp) : Prop := ∃ i j : Int, vs = [.int i, .int j] ∧ (-(2 ^ 62) ≤ i ∧ i < 2 ^ 62 ∧ -(2 ^ 62) ≤ j ∧ j < 2 ^ 62) ∧ Lp (Itr i (j - i).toNat) g tb D σ H
def LpS (g : TG) (tb : TS) (D : Ends) (σ : L2.St) (x : V) (H : Hp) : Prop := ∃ z, x = .str z ∧ Lp (Its z) g tb D σ H
def LpK (g : TG) (tb : TS) (D : Ends) (σ : L2.St) (x : V) (H : Hp) : Prop := ∃ d o, x = .ref d ∧ ((∃ kvs, H d = some (.frz o (.dK kvs)) ∧ Lp (Itk d o kvs) g tb D σ H) ∨ ∃ kvs, H d = some (.frz o (.dT kvs)) ∧ Lp (Itkt d o kvs) g tb D σ H)
def LpI (g : TG) (tb : TS) (D : Ends) (σ : L2.St) (x : V) (H : Hp) : Prop := ∃ d o kvs, x = .ref d ∧ H d = some (.frz o (.dK kvs)) ∧ Lp (Iti d o kvs) g tb D σ H
def LpV (g : TG) (tb : TS) (D : Ends) (σ : L2.St) (x : V) (H : Hp) : Prop := ∃ d o kvs, x = .ref d ∧ H d = some (.frz o (.dK kvs)) ∧ Lp (Itd d o kvs) g tb D σ H
theorem x_forL (h : te σ H fun x H1 => LpL K g tb ⟨n, r, b, c⟩ σ x H1) : tFor (iList K te) g tb ⟨n, r, b, c⟩ σ H := h
theorem x_forT (h : te σ H fun x H1 => LpT K g tb ⟨n, r, b, c⟩ σ x H1) : tFor (iTup K te) g tb ⟨n, r, b, c⟩ σ H := h
theorem x_forR (h : al σ H fun x H1 => LpR g tb ⟨n, r, b, c⟩ σ x H1) : tFor (iRng1 al) g tb ⟨n, r, b, c⟩ σ H := h
theorem x_forR2 (h : al σ H fun x H1 => LpR2 g tb ⟨n, r, b, c⟩ σ x H1) : tFor (iRng2 al) g tb ⟨n, r, b, c⟩ σ H := h
theorem x_forS (h : te σ H fun x H1 => LpS g tb ⟨n, r, b, c⟩ σ x H1) : tFor (iStr te) g tb ⟨n, r, b, c⟩ σ H := h
theorem x_forK (h : te σ H fun x H1 => LpK g tb ⟨n, r, b, c⟩ σ x H1) : tFor (iKeys te) g tb ⟨n, r, b, c⟩ σ H := h
theorem x_forI (h : te σ H fun x H1 => LpI g tb ⟨n, r, b, c⟩ σ x H1) : tFor (iItems te) g tb ⟨n, r, b, c⟩ σ H := h
theorem x_forV (h : te σ H fun x H1 => LpV g tb ⟨n, r, b, c⟩ σ x H1) : tFor (iVals te) g tb ⟨n, r, b, c⟩ σ H := h
/-- a name of the loop: the turn stores it -/
theorem lp_by {J : It} {m : Nat} {G : Hp → Prop} {Y : Nat → Hp → V → Hp → Prop} (w : L2.Walk J m G Y) (Pv : Nat → L2.St → Hp → Prop) (h0 : Pv 0 σ H) (hG : ∀ i σ H, i ≤ m → Pv i σ H → G H)
    (hs : ∀ i x σ H H', i < m → Pv i σ H → Y i H x H' → g x σ H' fun σ2 H2 => tb ⟨Pv (i + 1), r, n, Pv (i + 1)⟩ σ2 H2) (hd : ∀ σ H, Pv m σ H → n σ H) : Lp J g tb ⟨n, r, b, c⟩ σ H := L2.for_it w Pv h0 hG hs hd
theorem lpL {xs : List V} (Pv : Nat → L2.St → Hp → Prop) (h : SqL K H p xs) (h0 : Pv 0 σ H) (hG : ∀ i σ H, i ≤ xs.length → Pv i σ H → SqL K H p xs)
    (hs : ∀ i x σ H, xs[i]? = some x → Pv i σ H → g x σ H fun σ2 H2 => tb ⟨Pv (i + 1), r, n, Pv (i + 1)⟩ σ2 H2) (hd : ∀ σ H, Pv xs.length σ H → n σ H) : LpL K g tb ⟨n, r, b, c⟩ σ (.ref p) H :=
  ⟨p, rfl, ⟨xs, h⟩, lp_by walk_list Pv h0 hG (fun i x σ H H' _ hp y => by obtain ⟨rfl, e⟩ := y; exact hs i x σ _ e hp) hd⟩
theorem lpT {xs : List V} (Pv : Nat → L2.St → Hp → Prop) (h : SqT K H p xs) (h0 : Pv 0 σ H) (hG : ∀ i σ H, i ≤ xs.length → Pv i σ H → SqT K H p xs)
    (hs : ∀ i x σ H, xs[i]? = some x → Pv i σ H → g x σ H fun σ2 H2 => tb ⟨Pv (i + 1), r, n, Pv (i + 1)⟩ σ2 H2) (hd : ∀ σ H, Pv xs.length σ H → n σ H) : LpT K g tb ⟨n, r, b, c⟩ σ (.ref p) H :=
  ⟨p, rfl, ⟨xs, h⟩, lp_by walk_tup Pv h0 hG (fun i x σ H H' _ hp y => by obtain ⟨rfl, e⟩ := y; exact hs i x σ _ e hp) hd⟩
theorem lpR {j : Int} (Pv : Nat → L2.St → Hp → Prop) (hj : -(2 ^ 62) ≤ j ∧ j < 2 ^ 62) (h0 : Pv 0 σ H)
    (hs : ∀ i σ H, i < j.toNat → Pv i σ H → g (.int (i : Int)) σ H fun σ2 H2 => tb ⟨Pv (i + 1), r, n, Pv (i + 1)⟩ σ2 H2) (hd : ∀ σ H, Pv j.toNat σ H → n σ H) : LpR g tb ⟨n, r, b, c⟩ σ [.int j] H :=
  ⟨j, rfl, hj.1, hj.2, lp_by walk_range Pv h0 (fun _ _ _ _ _ => trivial) (fun i x σ H H' hi hp y => by
    obtain ⟨rfl, rfl⟩ := y
    dsimp only
    rw [Int.zero_add]
    exact hs i σ _ hi hp) hd⟩
theorem lpR2 {i0 j : Int} (Pv : Nat → L2.St → Hp → Prop) (hj : (-(2 ^ 62) ≤ i0 ∧ i0 < 2 ^ 62 ∧ -(2 ^ 62) ≤ j ∧ j < 2 ^ 62)) (h0 : Pv 0 σ H)
    (hs : ∀ i σ H, i < (j - i0).toNat → Pv i σ H → g (.int (i0 + (i : Int))) σ H fun σ2 H2 => tb ⟨Pv (i + 1), r, n, Pv (i + 1)⟩ σ2 H2) (hd : ∀ σ H, Pv (j - i0).toNat σ H → n σ H) : LpR2 g tb ⟨n, r, b, c⟩ σ [.int i0, .int j] H :=
  ⟨i0, j, rfl, hj, lp_by walk_range Pv h0 (fun _ _ _ _ _ => trivial) (fun i x σ H H' hi hp y => by
    obtain ⟨rfl, rfl⟩ := y
    exact hs i σ _ hi hp) hd⟩
theorem lpS {z : Str} (Pv : Nat → L2.St → Hp → Prop) (h0 : Pv 0 σ H)
    (hs : ∀ i d σ H, z.cps[i]? = some d → Pv i σ H → g (.str ⟨#[d]⟩) σ H fun σ2 H2 => tb ⟨Pv (i + 1), r, n, Pv (i + 1)⟩ σ2 H2) (hd : ∀ σ H, Pv z.cps.size σ H → n σ H) : LpS g tb ⟨n, r, b, c⟩ σ (.str z) H :=
  ⟨z, rfl, lp_by walk_str Pv h0 (fun _ _ _ _ _ => trivial) (fun i x σ H H' hi hp y => by
    obtain ⟨rfl, d, e, rfl⟩ := y
    exact hs i d σ _ e hp) hd⟩
theorem lpK {o : Obj} {kvs : List (Key × V)} (Pv : Nat → L2.St → Hp → Prop) (h : H p = some (.frz o (.dK kvs))) (h0 : Pv 0 σ H) (hG : ∀ i σ H, i ≤ kvs.length → Pv i σ H → H p = some (.frz o (.dK kvs)))
    (hs : ∀ i k v σ H, kvs[i]? = some (k, v) → Pv i σ H → g (kV k) σ H fun σ2 H2 => tb ⟨Pv (i + 1), r, n, Pv (i + 1)⟩ σ2 H2) (hd : ∀ σ H, Pv kvs.length σ H → n σ H) : LpK g tb ⟨n, r, b, c⟩ σ (.ref p) H :=
  ⟨p, o, rfl, .inl ⟨kvs, h, lp_by walk_keys Pv h0 hG (fun i x σ H H' _ hp y => by
    obtain ⟨rfl, k, v, e, rfl⟩ := y
    exact hs i k v σ _ e hp) hd⟩⟩
theorem lpV {o : Obj} {kvs : List (Key × V)} (Pv : Nat → L2.St → Hp → Prop) (h : H p = some (.frz o (.dK kvs))) (h0 : Pv 0 σ H) (hG : ∀ i σ H, i ≤ kvs.length → Pv i σ H → H p = some (.frz o (.dK kvs)))
    (hs : ∀ i k v σ H, kvs[i]? = some (k, v) → Pv i σ H → g v σ H fun σ2 H2 => tb ⟨Pv (i + 1), r, n, Pv (i + 1)⟩ σ2 H2) (hd : ∀ σ H, Pv kvs.length σ H → n σ H) : LpV g tb ⟨n, r, b, c⟩ σ (.ref p) H :=
  ⟨p, o, kvs, rfl, h, lp_by walk_values Pv h0 hG (fun i x σ H H' _ hp y => by
    obtain ⟨rfl, k, e⟩ := y
    exact hs i k x σ _ e hp) hd⟩
/-- the pairs, a new tuple each -/
theorem lpI {o : Obj} {kvs : List (Key × V)} (Pv : Nat → L2.St → Hp → Prop) (h : H p = some (.frz o (.dK kvs))) (h0 : Pv 0 σ H) (hG : ∀ i σ H, i ≤ kvs.length → Pv i σ H → H p = some (.frz o (.dK kvs)))
    (hs : ∀ i k v σ H T, kvs[i]? = some (k, v) → Pv i σ H → H T = none → g (.ref T) σ (upd H T (.tup [kV k, v])) fun σ2 H2 => tb ⟨Pv (i + 1), r, n, Pv (i + 1)⟩ σ2 H2) (hd : ∀ σ H, Pv kvs.length σ H → n σ H) : LpI g tb ⟨n, r, b, c⟩ σ (.ref p) H :=
  ⟨p, o, kvs, rfl, h, lp_by walk_items Pv h0 hG (fun i x σ H H' hi hp y => by
    obtain ⟨T, k, v, rfl, hT, rfl, e1, e2⟩ := y
    dsimp only at e1 e2
    cases e : kvs[i]? with
    | none => rw [e] at e1; cases e1
    | some kv =>
      rw [e] at e1 e2
      have e3 : kV kv.1 = k := Option.some.inj e1
      have e4 : kv.2 = v := Option.some.inj e2
      subst e3 e4
      exact hs i kv.1 kv.2 σ _ T e hp hT) hd⟩
theorem x_g1 {v : V} {i : Nat} {N : L2.St → Hp → Prop} (h : N (σ.set i (some v)) H) : gName i v σ H N := h
theorem x_g2 {T : Addr} {v w : V} {i j : Nat} {N : L2.St → Hp → Prop} (ht : SqT K H T [v, w]) (h : N ((σ.set i (some v)).set j (some w)) H) : gTup K 2 (gCons (gName i) (gCons (gName j) gNil)) (.ref T) σ H N :=
  ⟨T, [v, w], rfl, ht, rfl, v, [w], rfl, w, [], rfl, rfl, h⟩
end
/-! ### heaps: all but one kept -/
def But (p : Addr) (H H' : Hp) : Prop := ∀ b o, H b = some o → b ≠ p → H' b = some o
theorem But.refl {p : Addr} {H : Hp} : But p H H := fun _ _ h _ => h
theorem But.trans {p : Addr} {H H1 H2 : Hp} (a : But p H H1) (b : But p H1 H2) : But p H H2 := fun q o h e => b q o (a q o h e) e
theorem But.at_ {p : Addr} {H H' : Hp} {o : HO} (a : But p H H') : But p H (upd H' p o) := fun q u h e => by rw [upd_ne e]; exact a q u h e
theorem But.new {p q : Addr} {H H' : Hp} {o : HO} (a : But p H H') (h : H' q = none) : But p H (upd H' q o) := fun b u hb e => by
  have h1 := a b u hb e
  rw [upd_ne (ne_of_none h1 h)]
  exact h1
theorem But.of_same {p : Addr} {H H' : Hp} (a : L2.Same H H') : But p H H' := fun b o h _ => a b o h
theorem But.lst {K : PySem.W.Frag} {p q : Addr} {xs : List V} {H H' : Hp} (a : But p H H') (e : q ≠ p) (h : SqL K H q xs) : SqL K H' q xs := by
  rcases h with (h | ⟨o, h⟩) | h
  · exact .inl (.inl (a _ _ h e))
  · exact .inl (.inr ⟨o, a _ _ h e⟩)
  · exact .inr h
theorem ne_old {H : Hp} {a b : Addr} {o : HO} (h' : H b = none) (h : H a = some o) : a ≠ b := ne_of_none h h'
theorem ne_two {H : Hp} {a b : Addr} {o u : HO} (h : H a = some o) (h' : H b = some u) (d : o ≠ u) : a ≠ b := ne_of h h' d
/-! ### named readings of rules (so that a step can be told by its head) -/
def rLenA (K : PySem.W.Frag) : List V → Hp → VK → Prop := fun xs H Q => ∃ x n, xs = [x] ∧ LenV K x H n ∧ Q (.int n) H
def rLenDA : List V → Hp → VK → Prop := fun xs H Q => ∃ a kvs, xs = [V.ref a] ∧ Rd H a (.dK kvs) ∧ Q (.int kvs.length) H
def rIntA : List V → Hp → VK → Prop := fun xs H Q => (∃ i, xs = [.int i] ∧ Q (.int i) H) ∨ ∃ k, xs = [.bl k] ∧ Q (.int (if k then 1 else 0)) H
def rStrIA : List V → Hp → VK → Prop := fun xs H Q => ∃ i, xs = [.int i] ∧ i.natAbs.log2 < 1920 ∧ Q (.str (toString i)) H
def rAbsA : List V → Hp → VK → Prop := fun xs H Q => ∃ i, xs = [.int i] ∧ Q (.int (if i < 0 then -i else i)) H
def rMax2A : List V → Hp → VK → Prop := fun xs H Q => ∃ i j, xs = [.int i, .int j] ∧ Q (.int (if j > i then j else i)) H
def rMin2A : List V → Hp → VK → Prop := fun xs H Q => ∃ i j, xs = [.int i, .int j] ∧ Q (.int (if j < i then j else i)) H
def rListA (K : PySem.W.Frag) : List V → Hp → VK → Prop := fun xs H Q => ∃ p ys, xs = [.ref p] ∧ (SqL K H p ys ∨ SqT K H p ys) ∧ ∀ l, H l = none → Q (.ref l) (upd H l (.lst ys))
def rTupleA (K : PySem.W.Frag) : List V → Hp → VK → Prop := fun xs H Q => ∃ p ys, xs = [.ref p] ∧ ((SqL K H p ys ∧ ∀ l, H l = none → Q (.ref l) (upd H l (.tup ys))) ∨ (SqT K H p ys ∧ Q (.ref p) H))
def rDictA : List V → Hp → VK → Prop := fun xs H Q => ∃ (a : Addr) (kvs : List (Key × V)), xs = [.ref a] ∧ Rd H a (.dK kvs) ∧ ∀ p, H p = none → Q (.ref p) (upd H p (.dK kvs))
def rStr2 (g : Str → Str → Bool) : R2 := fun x y H Q => ∃ i j, x = .str i ∧ y = .str j ∧ Q (.bl (g i j)) H
def rAddSA : R2 := fun x y H Q => ∃ i j, x = .str i ∧ y = .str j ∧ i.length + j.length ≤ sizeLine ∧ Q (.str (i ++ j)) H
def rInSA : R2 := fun x y H Q => ∃ (c : Nat) (z : Str), x = .str ⟨#[c]⟩ ∧ y = .str z ∧ Q (.bl (decide (c ∈ z.cps.toList))) H
def rNinSA : R2 := fun x y H Q => ∃ (c : Nat) (z : Str), x = .str ⟨#[c]⟩ ∧ y = .str z ∧ Q (.bl (!decide (c ∈ z.cps.toList))) H
def rIsNA : R2 := fun x y H Q => y = .non ∧ Q (.bl (decide (x = .non))) H
def rNotNA : R2 := fun x y H Q => y = .non ∧ Q (.bl (!decide (x = .non))) H
section
variable {X : Cx}
theorem call_lenA : CallR X (.builtin "len") (rLenA X.K) := call_len
theorem call_lenDA : CallR X (.builtin "len") rLenDA := by
  intro pins s σ H xs us Q I r h
  obtain ⟨a, kvs, rfl, ha, q⟩ := h
  obtain ⟨u, rfl, ru⟩ := vals1 r
  cases ru
  exact d_len I ha fun t s' I' => ⟨.int kvs.length, H, I', ⟨t, rfl⟩, q⟩
theorem call_intA : CallR X (.type "int") rIntA := call_int1
theorem call_strIA : CallR X (.type "str") rStrIA := call_str_int
theorem call_absA : CallR X (.builtin "abs") rAbsA := call_abs
theorem call_max2A (hc : X.calm = true) : CallR X (.builtin "max") rMax2A := call_max2 hc
theorem call_min2A (hc : X.calm = true) : CallR X (.builtin "min") rMin2A := call_min2 hc
theorem call_listA : CallR X (.type "list") (rListA X.K) := call_list_of
theorem call_tupleA : CallR X (.type "tuple") (rTupleA X.K) := call_tuple_of
theorem call_dictA : CallR X (.type "dict") rDictA := call_dictD
theorem op_ltS : OpR X (compareOp .Lt) (rStr2 fun i j => decide (i.cps.toList < j.cps.toList)) := op_lt_str
theorem op_leS : OpR X (compareOp .LtE) (rStr2 fun i j => !decide (j.cps.toList < i.cps.toList)) := op_le_str
theorem op_gtS : OpR X (compareOp .Gt) (rStr2 fun i j => decide (j.cps.toList < i.cps.toList)) := op_gt_str
theorem op_geS : OpR X (compareOp .GtE) (rStr2 fun i j => !decide (i.cps.toList < j.cps.toList)) := op_ge_str
theorem op_addSA : OpR X (binaryOp .Add) rAddSA := op_add_str
theorem op_inSA : OpR X (compareOp .In) rInSA := op_in_sign
theorem op_ninSA : OpR X (compareOp .NotIn) rNinSA := op_notIn_sign
theorem op_isNA : OpR X (compareOp .Is) rIsNA := op_isN
theorem op_notNA : OpR X (compareOp .IsNot) rNotNA := op_notN
end
section
variable {σ : L2.St} {H : Hp} {Q : VK} {v x y : V} {ta : TE} {K : PySem.W.Frag}
theorem x_lenL {p : Addr} {xs : List V} (h : SqL K H p xs) (q : Q (.int xs.length) H) : rLenA K [V.ref p] H Q := ⟨_, _, rfl, .inl ⟨xs, h, rfl⟩, q⟩
theorem x_lenT {p : Addr} {xs : List V} (h : SqT K H p xs) (q : Q (.int xs.length) H) : rLenA K [V.ref p] H Q := ⟨_, _, rfl, .inr ⟨xs, h, rfl⟩, q⟩
theorem x_lenS {z : Str} (h : z.length ≤ sizeLine) (q : Q (.int z.length) H) : rLenA K [V.str z] H Q := ⟨_, _, rfl, ⟨h, rfl⟩, q⟩
theorem x_lenD {p : Addr} {kvs : List (Key × V)} (h : Rd H p (.dK kvs)) (q : Q (.int kvs.length) H) : rLenDA [V.ref p] H Q := ⟨p, kvs, rfl, h, q⟩
theorem x_intI {i : Int} (q : Q (.int i) H) : rIntA [V.int i] H Q := .inl ⟨i, rfl, q⟩
theorem x_strI {i : Int} (h : i.natAbs.log2 < 1920) (q : Q (.str (toString i)) H) : rStrIA [V.int i] H Q := ⟨i, rfl, h, q⟩
theorem x_abs {i : Int} (q : Q (.int (if i < 0 then -i else i)) H) : rAbsA [V.int i] H Q := ⟨i, rfl, q⟩
theorem x_max2 {i j : Int} (q : Q (.int (if j > i then j else i)) H) : rMax2A [V.int i, V.int j] H Q := ⟨i, j, rfl, q⟩
theorem x_min2 {i j : Int} (q : Q (.int (if j < i then j else i)) H) : rMin2A [V.int i, V.int j] H Q := ⟨i, j, rfl, q⟩
theorem x_str2 {g : Str → Str → Bool} {i j : Str} (q : Q (.bl (g i j)) H) : rStr2 g (.str i) (.str j) H Q := ⟨i, j, rfl, rfl, q⟩
theorem x_addS {i j : Str} (h : i.length + j.length ≤ sizeLine) (q : Q (.str (i ++ j)) H) : rAddSA (.str i) (.str j) H Q := ⟨i, j, rfl, rfl, h, q⟩
theorem x_inS {d : Nat} {z : Str} (q : Q (.bl (decide (d ∈ z.cps.toList))) H) : rInSA (.str ⟨#[d]⟩) (.str z) H Q := ⟨d, z, rfl, rfl, q⟩
theorem x_ninS {d : Nat} {z : Str} (q : Q (.bl (!decide (d ∈ z.cps.toList))) H) : rNinSA (.str ⟨#[d]⟩) (.str z) H Q := ⟨d, z, rfl, rfl, q⟩
theorem x_isN (q : Q (.bl (decide (x = .non))) H) : rIsNA x .non H Q := ⟨rfl, q⟩
theorem x_notN (q : Q (.bl (!decide (x = .non))) H) : rNotNA x .non H Q := ⟨rfl, q⟩
theorem x_listL {p : Addr} {xs : List V} (h : SqL K H p xs) (q : ∀ l, H l = none → Q (.ref l) (upd H l (.lst xs))) : rListA K [V.ref p] H Q := ⟨p, xs, rfl, .inl h, q⟩
theorem x_listT {p : Addr} {xs : List V} (h : SqT K H p xs) (q : ∀ l, H l = none → Q (.ref l) (upd H l (.lst xs))) : rListA K [V.ref p] H Q := ⟨p, xs, rfl, .inr h, q⟩
theorem x_tupL {p : Addr} {xs : List V} (h : SqL K H p xs) (q : ∀ l, H l = none → Q (.ref l) (upd H l (.tup xs))) : rTupleA K [V.ref p] H Q := ⟨p, xs, rfl, .inl ⟨h, q⟩⟩
theorem x_tupT {p : Addr} {xs : List V} (h : SqT K H p xs) (q : Q (.ref p) H) : rTupleA K [V.ref p] H Q := ⟨p, xs, rfl, .inr ⟨h, q⟩⟩
theorem x_dict {p : Addr} {kvs : List (Key × V)} (h : Rd H p (.dK kvs)) (q : ∀ l, H l = none → Q (.ref l) (upd H l (.dK kvs))) : rDictA [V.ref p] H Q := ⟨p, kvs, rfl, h, q⟩
def rFldA (K : PySem.W.Frag) (f : Str) (x : V) (H : Hp) (Q : VK) : Prop := ∃ a C dx fs v, x = .ref a ∧ H a = some (.ins C dx fs) ∧ Cls K C ∧ NoAttr K C f ∧ fs.lookup f = some v ∧ Q v H
theorem x_Fld {f : Str} (q : ta σ H fun x H1 => rFldA K f x H1 Q) : tFld K ta f σ H Q := q
theorem x_fld {a C dx : Addr} {fs : List (Str × V)} {f : Str} (hc : Cls K C) (hn : NoAttr K C f) (h : H a = some (.ins C dx fs)) (hl : fs.lookup f = some v) (q : Q v H) : rFldA K f (.ref a) H Q := ⟨a, C, dx, fs, v, rfl, h, hc, hn, hl, q⟩
end
end Ox
namespace Ox
open PySem PySem.Spec PyProof.Rows L2
theorem divok2 {i j : Int} (h : 0 < j) (h2 : j < 2 ^ 200) : CDivW i j := wide_div (b := 200) h (by omega) (by decide) (by decide)
end Ox
namespace Ox
open PySem PySem.Spec PyProof.Rows L2
section
variable {H : Hp} {Q : VK} {v : V} {K : PySem.W.Frag}
theorem x_ixl {p : Addr} {xs : List V} {k : Int} (j : Nat) (h : SqL K H p xs) (hk : k = (j : Int)) (ha : xs[j]? = some v) (q : Q v H) : rIxL K (.ref p) (.int k) H Q := x_ixL h (at_of hk ha) q
theorem x_ixt {p : Addr} {xs : List V} {k : Int} (j : Nat) (h : SqT K H p xs) (hk : k = (j : Int)) (ha : xs[j]? = some v) (q : Q v H) : rIxT K (.ref p) (.int k) H Q := x_ixT h (at_of hk ha) q
theorem x_ixs {z : Str} {k : Int} {d : Nat} (j : Nat) (h : z.length ≤ sizeLine) (hk : k = (j : Int)) (ha : z.cps.toList[j]? = some d) (q : Q (.str ⟨#[d]⟩) H) : rIxS (.str z) (.int k) H Q :=
  x_ixS h (by subst hk; exact atI_nat ha) q
end
end Ox
namespace Ox
open PySem PySem.Spec PyProof.Rows L2
theorem same_new {H : Hp} {p : Addr} {o : HO} (h : H p = none) : L2.Same H (upd H p o) := fun b u e => by rw [upd_ne (ne_of_none e h)]; exact e
/-- what H does not hold may change -/
theorem same_upd {H H' : Hp} {p : Addr} {o : HO} (s : L2.Same H H') (h : H p = none) : L2.Same H (upd H' p o) := fun b u e => by rw [upd_ne (ne_of_none e h)]; exact s b u e
theorem same_but {p : Addr} {H H1 H2 : Hp} (s : L2.Same H H1) (h : H p = none) (b : But p H1 H2) : L2.Same H H2 := fun q u e => b q u (s q u e) (ne_of_none e h)
theorem same_t {K : PySem.W.Frag} {H H' : Hp} {a : Addr} {xs : List V} (e : L2.Same H H') (h : SqT K H a xs) : SqT K H' a xs := by
  rcases h with (h | ⟨o, h⟩) | h
  · exact .inl (.inl (e _ _ h))
  · exact .inl (.inr ⟨o, e _ _ h⟩)
  · exact .inr h
theorem same_rd {H H' : Hp} {a : Addr} {u : HO} (e : L2.Same H H') (h : Rd H a u) : Rd H' a u := by
  rcases h with h | ⟨o, h⟩
  · exact .inl (e _ _ h)
  · exact .inr ⟨o, e _ _ h⟩
theorem but_rd {p : Addr} {H H' : Hp} {a : Addr} {u : HO} (e : But p H H') (n : a ≠ p) (h : Rd H a u) : Rd H' a u := by
  rcases h with h | ⟨o, h⟩
  · exact .inl (e _ _ h n)
  · exact .inr ⟨o, e _ _ h n⟩
theorem sz_le {n : Nat} (h : n ≤ 10000) : n ≤ sizeLine := Nat.le_trans h (by decide)
theorem sz_lt {n : Nat} (h : n < 10000) : n < sizeLine := Nat.lt_of_lt_of_le h (by decide)
end Ox
namespace Ox
open PySem PySem.Spec PyProof.Rows L2
theorem inV_strs (z : Str) (ws : List Str) : inV (.str z) (ws.map V.str) = decide (z ∈ ws) := by
  unfold inV
  induction ws with
  | nil => simp
  | cons a r ih =>
    rw [List.map_cons, List.any_cons, ih]
    show (a == z || decide (z ∈ r)) = decide (z ∈ a :: r)
    by_cases e : a = z
    · subst e
      simp
    · have e2 : (a == z) = false := by simpa using e
      have e3 : ¬ z = a := fun q => e q.symm
      rw [e2]
      simp [List.mem_cons, e3]
theorem flat_strs (ws : List Str) : (ws.map V.str).all flatV = true := by
  rw [List.all_map]
  exact List.all_eq_true.mpr fun _ _ => rfl
theorem inV_ints (z : Int) (ws : List Int) : inV (.int z) (ws.map V.int) = decide (z ∈ ws) := by
  unfold inV
  induction ws with
  | nil => simp
  | cons a r ih =>
    rw [List.map_cons, List.any_cons, ih]
    show (a == z || decide (z ∈ r)) = decide (z ∈ a :: r)
    by_cases e : a = z
    · subst e
      simp
    · have e2 : (a == z) = false := by simpa using e
      have e3 : ¬ z = a := fun q => e q.symm
      rw [e2]
      simp [List.mem_cons, e3]
theorem flat_ints (ws : List Int) : (ws.map V.int).all flatV = true := by
  rw [List.all_map]
  exact List.all_eq_true.mpr fun _ _ => rfl
section
variable {H : Hp} {Q : VK} {K : PySem.W.Frag} {p : Addr}
theorem x_inL {ws : List Str} {z : Str} (h : SqL K H p (ws.map V.str)) (q : Q (.bl (decide (z ∈ ws))) H) : rIn K false (.str z) (.ref p) H Q :=
  ⟨p, _, rfl, .inl h, rfl, flat_strs ws, by rw [inV_strs]; exact q⟩
theorem x_ninL {ws : List Str} {z : Str} (h : SqL K H p (ws.map V.str)) (q : Q (.bl (!decide (z ∈ ws))) H) : rIn K true (.str z) (.ref p) H Q :=
  ⟨p, _, rfl, .inl h, rfl, flat_strs ws, by rw [inV_strs]; exact q⟩
theorem x_inTs {ws : List Str} {z : Str} (h : SqT K H p (ws.map V.str)) (q : Q (.bl (decide (z ∈ ws))) H) : rIn K false (.str z) (.ref p) H Q :=
  ⟨p, _, rfl, .inr h, rfl, flat_strs ws, by rw [inV_strs]; exact q⟩
theorem x_inTi {ws : List Int} {z : Int} (h : SqT K H p (ws.map V.int)) (q : Q (.bl (decide (z ∈ ws))) H) : rIn K false (.int z) (.ref p) H Q :=
  ⟨p, _, rfl, .inr h, rfl, flat_ints ws, by rw [inV_ints]; exact q⟩
theorem x_ninTi {ws : List Int} {z : Int} (h : SqT K H p (ws.map V.int)) (q : Q (.bl (!decide (z ∈ ws))) H) : rIn K true (.int z) (.ref p) H Q :=
  ⟨p, _, rfl, .inr h, rfl, flat_ints ws, by rw [inV_ints]; exact q⟩
end
end Ox
namespace Ox
open PySem PySem.Spec PyProof.Rows L2
/-! ### comprehensions -/
section
variable {σ : L2.St} {H : Hp} {Q : VK} {te tk tv : TE} {n : L2.St → Hp → Prop} {r : VK} {b c : L2.St → Hp → Prop} {t : TS} {g : TG} {tt : TT} {K : PySem.W.Frag} {al : TA} {p D : Addr} {vs : List Nat} {wi : TI} {Qd : Hp → Prop}
def LcP (J : It) (g : TG) (tt : TT) (te : TE) (vs : List Nat) (σ : L2.St) (D : Addr) (Qd : Hp → Prop) (H1 : Hp) : Prop := ∃ W : Nat → Nat → Hp → Prop, (∃ m, W 0 m (upd H1 D (.lst []))) ∧ ∀ i m H, W i m H →
  (J.stop i H ∧ Qd H) ∨ (J.go i H ∧ ∃ Nx : Hp → Prop, (∀ H', Nx H' → ∃ m', m' < m ∧ W (i + 1) m' H') ∧ ∀ x H', J.yld i H x H' → g x (wipe σ vs) H' fun σ2 H2 => wipe σ2 vs = wipe σ vs ∧ tt σ2 H2 fun b H3 =>
    if b = true then te σ2 H3 fun y H4 => ∃ acc, H4 D = some (.lst acc) ∧ acc.length < sizeLine ∧ Nx (upd H4 D (.lst (acc ++ [y]))) else Nx H3)
def DcP (J : It) (g : TG) (tt : TT) (tk tv : TE) (vs : List Nat) (σ : L2.St) (D : Addr) (Qd : Hp → Prop) (H1 : Hp) : Prop := ∃ W : Nat → Nat → Hp → Prop, (∃ m, W 0 m (upd H1 D (.dK []))) ∧ ∀ i m H, W i m H →
  (J.stop i H ∧ Qd H) ∨ (J.go i H ∧ ∃ Nx : Hp → Prop, (∀ H', Nx H' → ∃ m', m' < m ∧ W (i + 1) m' H') ∧ ∀ x H', J.yld i H x H' → g x (wipe σ vs) H' fun σ2 H2 => wipe σ2 vs = wipe σ vs ∧ tt σ2 H2 fun b H3 =>
    if b = true then tk σ2 H3 fun y H4 => tv σ2 H4 fun z H5 => ∃ kvs k, y = kV k ∧ H5 D = some (.dK kvs) ∧ kvs.length < sizeLine ∧ Nx (upd H5 D (.dK (putK kvs k z))) else Nx H3)
theorem x_lc (h : wi σ H fun J H1 => ∀ D, H1 D = none → LcP J g tt te vs σ D (fun H2 => Q (.ref D) H2) H1) : tLc wi g tt te vs σ H Q := h
theorem x_dc (h : wi σ H fun J H1 => ∀ D, H1 D = none → DcP J g tt tk tv vs σ D (fun H2 => Q (.ref D) H2) H1) : tDc wi g tt tk tv vs σ H Q := h
theorem x_yes1 {R : Bool → Hp → Prop} (h : R true H) : tYes σ H R := h
def RunK (R : It → Hp → Prop) (x : V) (H : Hp) : Prop := ∃ d o, x = .ref d ∧ ((∃ kvs, H d = some (.frz o (.dK kvs)) ∧ R (Itk d o kvs) H) ∨ ∃ kvs, H d = some (.frz o (.dT kvs)) ∧ R (Itkt d o kvs) H)
def RunV (R : It → Hp → Prop) (x : V) (H : Hp) : Prop := ∃ d o kvs, x = .ref d ∧ H d = some (.frz o (.dK kvs)) ∧ R (Itd d o kvs) H
def RunI (R : It → Hp → Prop) (x : V) (H : Hp) : Prop := ∃ d o kvs, x = .ref d ∧ H d = some (.frz o (.dK kvs)) ∧ R (Iti d o kvs) H
def RunL (K : PySem.W.Frag) (R : It → Hp → Prop) (x : V) (H : Hp) : Prop := ∃ a, x = .ref a ∧ (∃ xs, SqL K H a xs) ∧ R (Itl K a) H
def RunT (K : PySem.W.Frag) (R : It → Hp → Prop) (x : V) (H : Hp) : Prop := ∃ a, x = .ref a ∧ (∃ xs, SqT K H a xs) ∧ R (Itt K a) H
def RunS (R : It → Hp → Prop) (x : V) (H : Hp) : Prop := ∃ z, x = .str z ∧ R (Its z) H
def RunR (R : It → Hp → Prop) (vs : List V) (H : Hp) : Prop := ∃ j : Int, vs = [.int j] ∧ -(2 ^ 62) ≤ j ∧ j < 2 ^ 62 ∧ R (Itr 0 j.toNat) H
theorem x_iK {R : It → Hp → Prop} (h : te σ H fun x H1 => RunK R x H1) : iKeys te σ H R := h
theorem x_iV {R : It → Hp → Prop} (h : te σ H fun x H1 => RunV R x H1) : iVals te σ H R := h
theorem x_iI {R : It → Hp → Prop} (h : te σ H fun x H1 => RunI R x H1) : iItems te σ H R := h
theorem x_iL {R : It → Hp → Prop} (h : te σ H fun x H1 => RunL K R x H1) : iList K te σ H R := h
theorem x_iT {R : It → Hp → Prop} (h : te σ H fun x H1 => RunT K R x H1) : iTup K te σ H R := h
theorem x_iS {R : It → Hp → Prop} (h : te σ H fun x H1 => RunS R x H1) : iStr te σ H R := h
theorem x_iR {R : It → Hp → Prop} (h : al σ H fun x H1 => RunR R x H1) : iRng1 al σ H R := h
theorem runK {R : It → Hp → Prop} {o : Obj} {kvs : List (Key × V)} (h : H p = some (.frz o (.dK kvs))) (q : R (Itk p o kvs) H) : RunK R (.ref p) H := ⟨p, o, rfl, .inl ⟨kvs, h, q⟩⟩
theorem runV {R : It → Hp → Prop} {o : Obj} {kvs : List (Key × V)} (h : H p = some (.frz o (.dK kvs))) (q : R (Itd p o kvs) H) : RunV R (.ref p) H := ⟨p, o, kvs, rfl, h, q⟩
theorem runI {R : It → Hp → Prop} {o : Obj} {kvs : List (Key × V)} (h : H p = some (.frz o (.dK kvs))) (q : R (Iti p o kvs) H) : RunI R (.ref p) H := ⟨p, o, kvs, rfl, h, q⟩
theorem runL {R : It → Hp → Prop} {xs : List V} (h : SqL K H p xs) (q : R (Itl K p) H) : RunL K R (.ref p) H := ⟨p, rfl, ⟨xs, h⟩, q⟩
theorem runT {R : It → Hp → Prop} {xs : List V} (h : SqT K H p xs) (q : R (Itt K p) H) : RunT K R (.ref p) H := ⟨p, rfl, ⟨xs, h⟩, q⟩
theorem runR {R : It → Hp → Prop} {j : Int} (h : -(2 ^ 62) ≤ j ∧ j < 2 ^ 62) (q : R (Itr 0 j.toNat) H) : RunR R [.int j] H := ⟨j, rfl, h.1, h.2, q⟩
theorem lc_by {J : It} {m : Nat} {G : Hp → Prop} {Y : Nat → Hp → V → Hp → Prop} (w : L2.Walk J m G Y) (Pv : Nat → Hp → Prop) (h0 : Pv 0 (upd H D (.lst []))) (hG : ∀ i H, i ≤ m → Pv i H → G H)
    (hs : ∀ i x H H', i < m → Pv i H → Y i H x H' → g x (wipe σ vs) H' fun σ2 H2 => wipe σ2 vs = wipe σ vs ∧ tt σ2 H2 fun b H3 =>
      if b = true then te σ2 H3 fun y H4 => ∃ acc, H4 D = some (.lst acc) ∧ acc.length < sizeLine ∧ Pv (i + 1) (upd H4 D (.lst (acc ++ [y]))) else Pv (i + 1) H3) (hd : ∀ H, Pv m H → Qd H) : LcP J g tt te vs σ D Qd H := L2.lc_it w Pv h0 hG hs hd
theorem dc_by {J : It} {m : Nat} {G : Hp → Prop} {Y : Nat → Hp → V → Hp → Prop} (w : L2.Walk J m G Y) (Pv : Nat → Hp → Prop) (h0 : Pv 0 (upd H D (.dK []))) (hG : ∀ i H, i ≤ m → Pv i H → G H)
    (hs : ∀ i x H H', i < m → Pv i H → Y i H x H' → g x (wipe σ vs) H' fun σ2 H2 => wipe σ2 vs = wipe σ vs ∧ tt σ2 H2 fun b H3 =>
      if b = true then tk σ2 H3 fun y H4 => tv σ2 H4 fun z H5 => ∃ kvs k, y = kV k ∧ H5 D = some (.dK kvs) ∧ kvs.length < sizeLine ∧ Pv (i + 1) (upd H5 D (.dK (putK kvs k z))) else Pv (i + 1) H3) (hd : ∀ H, Pv m H → Qd H) : DcP J g tt tk tv vs σ D Qd H := by
  refine ⟨fun i k H => k = m - i ∧ i ≤ m ∧ Pv i H, ⟨m, by simp, Nat.zero_le _, h0⟩, ?_⟩
  rintro i k H ⟨rfl, hi, hp⟩
  have q := hG i H hi hp
  by_cases hlt : i < m
  · exact .inr ⟨w.goes i H hlt q, Pv (i + 1), fun H' p' => ⟨m - (i + 1), by omega, rfl, hlt, p'⟩, fun x H' y => hs i x H H' hlt hp (w.yields i H x H' hlt q y)⟩
  · have e : i = m := by omega
    subst e
    exact .inl ⟨w.stops H q, hd H hp⟩
theorem lcK {o : Obj} {kvs : List (Key × V)} (Pv : Nat → Hp → Prop) (h0 : Pv 0 (upd H D (.lst []))) (hG : ∀ i H, i ≤ kvs.length → Pv i H → H p = some (.frz o (.dK kvs)))
    (hs : ∀ i k v H, kvs[i]? = some (k, v) → Pv i H → g (kV k) (wipe σ vs) H fun σ2 H2 => wipe σ2 vs = wipe σ vs ∧ tt σ2 H2 fun b H3 =>
      if b = true then te σ2 H3 fun y H4 => ∃ acc, H4 D = some (.lst acc) ∧ acc.length < sizeLine ∧ Pv (i + 1) (upd H4 D (.lst (acc ++ [y]))) else Pv (i + 1) H3) (hd : ∀ H, Pv kvs.length H → Qd H) : LcP (Itk p o kvs) g tt te vs σ D Qd H :=
  lc_by walk_keys Pv h0 hG (fun i x H H' _ hp y => by obtain ⟨rfl, k, v, e, rfl⟩ := y; exact hs i k v _ e hp) hd
theorem lcL {xs : List V} (Pv : Nat → Hp → Prop) (h0 : Pv 0 (upd H D (.lst []))) (hG : ∀ i H, i ≤ xs.length → Pv i H → SqL K H p xs)
    (hs : ∀ i x H, xs[i]? = some x → Pv i H → g x (wipe σ vs) H fun σ2 H2 => wipe σ2 vs = wipe σ vs ∧ tt σ2 H2 fun b H3 =>
      if b = true then te σ2 H3 fun y H4 => ∃ acc, H4 D = some (.lst acc) ∧ acc.length < sizeLine ∧ Pv (i + 1) (upd H4 D (.lst (acc ++ [y]))) else Pv (i + 1) H3) (hd : ∀ H, Pv xs.length H → Qd H) : LcP (Itl K p) g tt te vs σ D Qd H :=
  lc_by walk_list Pv h0 hG (fun i x H H' _ hp y => by obtain ⟨rfl, e⟩ := y; exact hs i x _ e hp) hd
theorem lcT {xs : List V} (Pv : Nat → Hp → Prop) (h0 : Pv 0 (upd H D (.lst []))) (hG : ∀ i H, i ≤ xs.length → Pv i H → SqT K H p xs)
    (hs : ∀ i x H, xs[i]? = some x → Pv i H → g x (wipe σ vs) H fun σ2 H2 => wipe σ2 vs = wipe σ vs ∧ tt σ2 H2 fun b H3 =>
      if b = true then te σ2 H3 fun y H4 => ∃ acc, H4 D = some (.lst acc) ∧ acc.length < sizeLine ∧ Pv (i + 1) (upd H4 D (.lst (acc ++ [y]))) else Pv (i + 1) H3) (hd : ∀ H, Pv xs.length H → Qd H) : LcP (Itt K p) g tt te vs σ D Qd H :=
  lc_by walk_tup Pv h0 hG (fun i x H H' _ hp y => by obtain ⟨rfl, e⟩ := y; exact hs i x _ e hp) hd
theorem dcK {o : Obj} {kvs : List (Key × V)} (Pv : Nat → Hp → Prop) (h0 : Pv 0 (upd H D (.dK []))) (hG : ∀ i H, i ≤ kvs.length → Pv i H → H p = some (.frz o (.dK kvs)))
    (hs : ∀ i k v H, kvs[i]? = some (k, v) → Pv i H → g (kV k) (wipe σ vs) H fun σ2 H2 => wipe σ2 vs = wipe σ vs ∧ tt σ2 H2 fun b H3 =>
      if b = true then tk σ2 H3 fun y H4 => tv σ2 H4 fun z H5 => ∃ kvs k, y = kV k ∧ H5 D = some (.dK kvs) ∧ kvs.length < sizeLine ∧ Pv (i + 1) (upd H5 D (.dK (putK kvs k z))) else Pv (i + 1) H3) (hd : ∀ H, Pv kvs.length H → Qd H) : DcP (Itk p o kvs) g tt tk tv vs σ D Qd H :=
  dc_by walk_keys Pv h0 hG (fun i x H H' _ hp y => by obtain ⟨rfl, k, v, e, rfl⟩ := y; exact hs i k v _ e hp) hd
theorem dcL {xs : List V} (Pv : Nat → Hp → Prop) (h0 : Pv 0 (upd H D (.dK []))) (hG : ∀ i H, i ≤ xs.length → Pv i H → SqL K H p xs)
    (hs : ∀ i x H, xs[i]? = some x → Pv i H → g x (wipe σ vs) H fun σ2 H2 => wipe σ2 vs = wipe σ vs ∧ tt σ2 H2 fun b H3 =>
      if b = true then tk σ2 H3 fun y H4 => tv σ2 H4 fun z H5 => ∃ kvs k, y = kV k ∧ H5 D = some (.dK kvs) ∧ kvs.length < sizeLine ∧ Pv (i + 1) (upd H5 D (.dK (putK kvs k z))) else Pv (i + 1) H3) (hd : ∀ H, Pv xs.length H → Qd H) : DcP (Itl K p) g tt tk tv vs σ D Qd H :=
  dc_by walk_list Pv h0 hG (fun i x H H' _ hp y => by obtain ⟨rfl, e⟩ := y; exact hs i x _ e hp) hd
theorem dcI {o : Obj} {kvs : List (Key × V)} (Pv : Nat → Hp → Prop) (h0 : Pv 0 (upd H D (.dK []))) (hG : ∀ i H, i ≤ kvs.length → Pv i H → H p = some (.frz o (.dK kvs)))
    (hs : ∀ i k v H T, kvs[i]? = some (k, v) → Pv i H → H T = none → g (.ref T) (wipe σ vs) (upd H T (.tup [kV k, v])) fun σ2 H2 => wipe σ2 vs = wipe σ vs ∧ tt σ2 H2 fun b H3 =>
      if b = true then tk σ2 H3 fun y H4 => tv σ2 H4 fun z H5 => ∃ kvs k, y = kV k ∧ H5 D = some (.dK kvs) ∧ kvs.length < sizeLine ∧ Pv (i + 1) (upd H5 D (.dK (putK kvs k z))) else Pv (i + 1) H3) (hd : ∀ H, Pv kvs.length H → Qd H) : DcP (Iti p o kvs) g tt tk tv vs σ D Qd H :=
  dc_by walk_items Pv h0 hG (fun i x H H' _ hp y => by
    obtain ⟨T, k, v, rfl, hT, rfl, e1, e2⟩ := y
    dsimp only at e1 e2
    cases e : kvs[i]? with
    | none => rw [e] at e1; cases e1
    | some kv =>
      rw [e] at e1 e2
      have e3 : kV kv.1 = k := Option.some.inj e1
      have e4 : kv.2 = v := Option.some.inj e2
      subst e3 e4
      exact hs i kv.1 kv.2 _ T e hp hT) hd
/-- a dict is held while it is walked -/
theorem x_lock {d : Addr} {u : HO} (h : H d = some u) (hm : Mut (some u)) (q : ∀ od, t ⟨fun σ' H' => H' d = some (.frz od u) ∧ n σ' (upd H' d u), fun v H' => H' d = some (.frz od u) ∧ r v (upd H' d u), fun σ' H' => H' d = some (.frz od u) ∧ b σ' (upd H' d u), fun σ' H' => H' d = some (.frz od u) ∧ c σ' (upd H' d u)⟩ σ (upd H d (.frz od u))) :
    tLock t ⟨n, r, b, c⟩ σ H := ⟨d, u, h, hm, q⟩
theorem x_lockE {d : Addr} {u : HO} (h : H d = some u) (hm : Mut (some u)) (q : ∀ od, te σ (upd H d (.frz od u)) fun v H' => H' d = some (.frz od u) ∧ Q v (upd H' d u)) : tLockE te σ H Q := ⟨d, u, h, hm, q⟩
/-! ### dicts -/
def rGetA (x y : V) (H : Hp) (Q : VK) : Prop := ∃ a v, x = .ref a ∧ DGet H a y (some v) ∧ Q v H
def rDinA (y x : V) (H : Hp) (Q : VK) : Prop := ∃ a o, x = .ref a ∧ DGet H a y o ∧ Q (.bl o.isSome) H
def rDninA (y x : V) (H : Hp) (Q : VK) : Prop := ∃ a o, x = .ref a ∧ DGet H a y o ∧ Q (.bl (!o.isSome)) H
def rDputA (x y v : V) (H : Hp) (N : Hp → Prop) : Prop := ∃ a H4, x = .ref a ∧ DPut H a y v H4 ∧ N H4
variable {td ty : TE} {x y v : V}
theorem x_dget (h : td σ H fun x H1 => ty σ H1 fun y H2 => rGetA x y H2 Q) : tDGet td ty σ H Q := h
theorem x_din (h : ty σ H fun y H1 => td σ H1 fun x H2 => rDinA y x H2 Q) : tDIn ty td σ H Q := h
theorem x_dnin (h : ty σ H fun y H1 => td σ H1 fun x H2 => rDninA y x H2 Q) : tDNotIn ty td σ H Q := h
theorem x_dput (h : tv σ H fun v H1 => td σ H1 fun x H2 => ty σ H2 fun y H3 => rDputA x y v H3 fun H4 => n σ H4) : sDPut td ty tv ⟨n, r, b, c⟩ σ H := h
theorem x_getS {kvs : List (Key × V)} {z : Str} (h : Rd H p (.dK kvs)) (e : valV kvs (Sum.inr z : Key) = some v) (q : Q v H) : rGetA (.ref p) (.str z) H Q := ⟨p, v, rfl, .inl ⟨kvs, Sum.inr z, h, rfl, e.symm⟩, q⟩
theorem x_dinS {kvs : List (Key × V)} {z : Str} (h : Rd H p (.dK kvs)) (q : Q (.bl (valV kvs (Sum.inr z : Key)).isSome) H) : rDinA (.str z) (.ref p) H Q := ⟨p, _, rfl, .inl ⟨kvs, Sum.inr z, h, rfl, rfl⟩, q⟩
theorem x_dninS {kvs : List (Key × V)} {z : Str} (h : Rd H p (.dK kvs)) (q : Q (.bl (!(valV kvs (Sum.inr z : Key)).isSome)) H) : rDninA (.str z) (.ref p) H Q := ⟨p, _, rfl, .inl ⟨kvs, Sum.inr z, h, rfl, rfl⟩, q⟩
theorem x_putS {kvs : List (Key × V)} {z : Str} {N : Hp → Prop} (h : H p = some (.dK kvs)) (hl : kvs.length < sizeLine) (q : N (upd H p (.dK (putK kvs (Sum.inr z : Key) v)))) : rDputA (.ref p) (.str z) v H N :=
  ⟨p, _, rfl, .inl ⟨kvs, Sum.inr z, h, rfl, hl, rfl⟩, q⟩
theorem x_newK (h : ∀ p, H p = none → Q (.ref p) (upd H p (.dK []))) : tDNewK σ H Q := h
end
end Ox
namespace Ox
open PySem PySem.Spec PyProof.Rows L2
theorem valV_at {kvs : List (Key × V)} (hn : (kvs.map (·.1)).Nodup) {i : Nat} {k : Key} {v : V} (h : kvs[i]? = some (k, v)) : valV kvs k = some v := by
  induction kvs generalizing i with
  | nil => cases h
  | cons p r ih =>
    have hn2 : (p.1 :: r.map (·.1)).Nodup := hn
    obtain ⟨h1, h2⟩ := List.nodup_cons.mp hn2
    unfold valV
    rw [List.find?_cons]
    cases i with
    | zero =>
      have e : p = (k, v) := Option.some.inj h
      subst e
      simp
    | succ i =>
      have h3 : r[i]? = some (k, v) := h
      have ne : ¬ p.1 = k := fun e => h1 (by rw [e]; exact List.mem_map.mpr ⟨(k, v), List.mem_of_getElem? h3, rfl⟩)
      rw [decide_eq_false ne]
      exact ih h2 h3
theorem valV_mem {kvs : List (Key × V)} {k : Key} {v : V} (h : valV kvs k = some v) : (k, v) ∈ kvs := by
  unfold valV at h
  cases e : kvs.find? (fun kv => decide (kv.1 = k)) with
  | none => rw [e] at h; cases h
  | some p =>
    rw [e] at h
    have h1 : p.2 = v := Option.some.inj h
    have h2 := List.find?_some e
    have h3 : p.1 = k := of_decide_eq_true h2
    rw [← h1, ← h3]
    exact List.mem_of_find?_eq_some e
/-- a dict with text keys -/
abbrev strK {α : Type} (f : α → V) (l : List (Str × α)) : List (Key × V) := l.map fun p => (Sum.inr p.1, f p.2)
theorem strK_at {α : Type} {f : α → V} {l : List (Str × α)} {i : Nat} {k : Key} {v : V} (h : (strK f l)[i]? = some (k, v)) : ∃ z x, k = Sum.inr z ∧ v = f x ∧ l[i]? = some (z, x) := by
  rw [List.getElem?_map] at h
  cases e : l[i]? with
  | none => rw [e] at h; cases h
  | some p =>
    rw [e] at h
    have e1 : ((Sum.inr p.1 : Key), f p.2) = (k, v) := Option.some.inj h
    injection e1 with e2 e3
    exact ⟨p.1, p.2, e2.symm, e3.symm, rfl⟩
theorem strK_nd {α : Type} {f : α → V} {l : List (Str × α)} (h : (l.map (·.1)).Nodup) : ((strK f l).map (·.1)).Nodup := by
  rw [List.map_map]
  have e : ((fun x : Key × V => x.1) ∘ fun p : Str × α => ((Sum.inr p.1 : Key), f p.2)) = (fun p : Str × α => (Sum.inr p.1 : Key)) := rfl
  rw [e]
  have e2 : l.map (fun p : Str × α => (Sum.inr p.1 : Key)) = (l.map (·.1)).map Sum.inr := by rw [List.map_map]; rfl
  rw [e2]
  exact List.pairwise_map.mpr (List.Pairwise.imp (fun {a b} hab e => hab (Sum.inr.inj e)) h)
theorem strK_val {α : Type} {f : α → V} {l : List (Str × α)} (h : (l.map (·.1)).Nodup) {i : Nat} {z : Str} {x : α} (e : l[i]? = some (z, x)) : valV (strK f l) (Sum.inr z : Key) = some (f x) :=
  valV_at (strK_nd h) (i := i) (by rw [List.getElem?_map, e]; rfl)
theorem strK_get {α : Type} {f : α → V} {l : List (Str × α)} {z : Str} {v : V} (h : valV (strK f l) (Sum.inr z : Key) = some v) : ∃ x, v = f x ∧ (z, x) ∈ l := by
  obtain ⟨p, hp, e⟩ := List.mem_map.mp (valV_mem h)
  injection e with e1 e2
  injection e1 with e3
  exact ⟨p.2, e2.symm, by rw [← e3]; exact hp⟩
theorem take_succ_get {α : Type} {l : List α} {i : Nat} {x : α} (h : l[i]? = some x) : l.take (i + 1) = l.take i ++ [x] := by
  rw [List.take_succ, h]
  rfl
end Ox
namespace Ox
open PySem PySem.Spec PyProof.Rows L2
/-- sorted(d), d a dict with text keys, of any length that fits the line -/
def rSortDA : List V → Hp → VK → Prop := fun xs H Q => ∃ (d : Addr) (kvs : List (Key × V)) (ks : List Str), xs = [.ref d] ∧ Rd H d (.dK kvs) ∧ kvs.map (·.1) = ks.map Sum.inr ∧ ks.length ≤ 10000 ∧
  ∀ ys p, ys.Perm ks → sortedS ys = true → H p = none → Q (.ref p) (upd H p (.lst (ys.map V.str)))
theorem call_sortedDA {X : Cx} (calm : X.calm = true) : CallR X (.builtin "sorted") rSortDA := by
  intro pn st σ H args us Q I ra hq
  obtain ⟨d, kvs, ks, rfl, rd, ek, len, fin⟩ := hq
  obtain ⟨ud, rfl, rud⟩ := vals1 ra
  cases rud
  obtain ⟨_, low, rows, rowsR, isd⟩ := dk_rd I.hok rd
  obtain ⟨epoch, atd⟩ := isd.dictAt
  have keyE : rows.map Prod.fst = ks.map Sum.inr := Eq.trans rowsR.keys.symm ek
  have lenE : rows.length = ks.length := by
    have t := congrArg List.length keyE
    simpa using t
  have line : ks.length ≤ sizeLine := by rw [sizeLine_eq]; omega
  refine Calls.call_function_entry kind_sorted plain_sorted entry_sorted (args_sorted1 _) ?_
  unfold Builtin.«sorted»
  refine wpAny_bind (m := checkCount "sorted" 1 1 _) (wpAny_pure (wpAny_bind (PySem.W.kdu_collect (A := X.A.in1) (PySem.W.kdl_dict (knd := mixKind X.prog X.w) (kvs := rows) (ep := epoch) low) (I.ok.hd calm) atd (by rw [lenE]; exact line) fun h1 t1 got keep isgot => ?_)))
  have gotL : got.toList.length = ks.length := (Array.length_toList ..).trans (isgot.1.trans lenE)
  have texts : StrsAre got.toList ks := strs_at gotL fun j v ev => by
    obtain ⟨key, _, er, ki⟩ := isgot.2 j v (by rw [← Array.getElem?_toList]; exact ev)
    have ekj : (ks.map Sum.inr)[j]? = some key := by rw [← keyE, List.getElem?_map, er]; rfl
    rw [List.getElem?_map] at ekj
    cases ez : ks[j]? with
    | none => rw [ez] at ekj; cases ekj
    | some z =>
      rw [ez] at ekj
      cases ekj
      obtain ⟨t, et⟩ := Value.isStrOf_shape (x := z) (v := v) ki
      exact ⟨z, t, rfl, et⟩
  have J : Inv X pn σ H { st with heap := h1, toks := t1 } := I.kept keep
  refine wpAny_bind (wpAny_newList ?_ (by rw [gotL]; rw [sizeLine_eq] at line; exact line))
  have isl : (h1.push (seqObj "list" got.toList.toArray 0)).get? h1.objs.size = some (seqObj "list" got.toList.toArray 0) := Heap.get?_push_size _ rfl
  change wpAny _ _ _ _ _ { st with heap := h1.push (seqObj "list" got.toList.toArray 0), toks := t1 }
  refine wpAny_bind (wpAny_holding (wpAny_call_entry slot_list_sort ⟨_, isl, rfl⟩ entry_list_sort (list_sort_treeKAny (s := { st with heap := h1.push (seqObj "list" got.toList.toArray 0), toks := t1 }) strKind_oneLt isl texts.keysOf
    (fun a b c eq => keyKind_strs (by rw [← eq]; exact texts)) (by rw [gotL]; exact line) fun st2 pm so => ⟨_, rfl, ?_⟩) (args_list_sort _)))
  obtain ⟨ys, y1, y2, y3⟩ := sorted_out_str texts pm so
  obtain ⟨ep2, at2⟩ := sortedHeap_at (vs := got.toList) (out := (arrOf st2).map (·.2)) isl
  have ylen : (ys.map V.str).length ≤ sizeLine := by rw [List.length_map, y2.length_eq]; exact line
  have laid := fun kept => J.laid (t' := t1) kept (Nat.le_refl h1.objs.size) (show ObjOk X.prog X.w _ _ _ (.lst (ys.map V.str)) from ⟨ylen, ((arrOf st2).map (·.2)).toList, ep2, vals_of_strs y1, by rw [Array.toArray_toList]; exact at2⟩)
  refine wpAny_pure ⟨_, rfl, .ref h1.objs.size, _, laid fun b u eb => ?_, rfl, fin ys _ y2 y3 (J.hok.fresh (Nat.le_refl _))⟩
  have small := Heap.lt_size eb
  rw [sortedHeap_old (Nat.ne_of_lt small) (by rw [size_push']; exact Nat.lt_succ_of_lt small)]
  exact Heap.get?_push_of_some _ eb
theorem lt_one (a b : Nat) : (([a] : List Nat) < [b]) ↔ a < b := by
  rw [List.cons_lt_cons_iff]
  simp
section
variable {H : Hp} {Q : VK} {d : Nat} {s : Str}
theorem x_leL (c : Nat) (e : s = ⟨#[c]⟩) (q : Q (.bl (decide (c ≤ d))) H) : rStr2 (fun i j => !decide (j.cps.toList < i.cps.toList)) (.str s) (.str ⟨#[d]⟩) H Q := by
  subst e
  refine ⟨_, _, rfl, rfl, ?_⟩
  have h : (!decide ((⟨#[d]⟩ : Str).cps.toList < (⟨#[c]⟩ : Str).cps.toList)) = decide (c ≤ d) := by
    show (!decide ([d] < [c])) = _
    rw [show decide (([d] : List Nat) < [c]) = decide (d < c) from decide_eq_decide.mpr (lt_one d c)]
    by_cases z : d < c
    · have : ¬ c ≤ d := by omega
      simp [z, this]
    · have : c ≤ d := by omega
      simp [z, this]
  dsimp only
  rw [h]
  exact q
theorem x_leR (c : Nat) (e : s = ⟨#[c]⟩) (q : Q (.bl (decide (d ≤ c))) H) : rStr2 (fun i j => !decide (j.cps.toList < i.cps.toList)) (.str ⟨#[d]⟩) (.str s) H Q := by
  subst e
  refine ⟨_, _, rfl, rfl, ?_⟩
  have h : (!decide ((⟨#[c]⟩ : Str).cps.toList < (⟨#[d]⟩ : Str).cps.toList)) = decide (d ≤ c) := by
    show (!decide ([c] < [d])) = _
    rw [show decide (([c] : List Nat) < [d]) = decide (c < d) from decide_eq_decide.mpr (lt_one c d)]
    by_cases z : c < d
    · have : ¬ d ≤ c := by omega
      simp [z, this]
    · have : d ≤ c := by omega
      simp [z, this]
  dsimp only
  rw [h]
  exact q
end
theorem chr_a : ("a" : Str) = ⟨#[97]⟩ := by decide +kernel
theorem chr_z : ("z" : Str) = ⟨#[122]⟩ := by decide +kernel
theorem chr_0 : ("0" : Str) = ⟨#[48]⟩ := by decide +kernel
theorem chr_9 : ("9" : Str) = ⟨#[57]⟩ := by decide +kernel
end Ox
namespace Ox
open PySem PySem.Spec PyProof.Rows L2
/-! ### dicts with text keys as association lists -/
theorem strK_look {α : Type} {f : α → V} (l : List (Str × α)) (z : Str) : valV (strK f l) (Sum.inr z : Key) = (l.lookup z).map f := by
  induction l with
  | nil => rfl
  | cons p r ih =>
    show valV ((Sum.inr p.1, f p.2) :: strK f r) (Sum.inr z : Key) = _
    unfold valV
    rw [List.find?_cons, List.lookup_cons]
    by_cases e : p.1 = z
    · subst e
      simp
    · have e1 : ¬ (Sum.inr p.1 : Key) = Sum.inr z := fun q => e (Sum.inr.inj q)
      have e2 : (z == p.1) = false := by simpa using fun q : z = p.1 => e q.symm
      rw [decide_eq_false e1, e2]
      exact ih
/-- a store -/
def putL {α : Type} (l : List (Str × α)) (z : Str) (x : α) : List (Str × α) := if z ∈ l.map (·.1) then l.map (fun p => if p.1 = z then (p.1, x) else p) else l ++ [(z, x)]
theorem putL_new {α : Type} {l : List (Str × α)} {z : Str} (x : α) (h : z ∉ l.map (·.1)) : putL l z x = l ++ [(z, x)] := by
  unfold putL
  rw [if_neg h]
theorem putL_keys {α : Type} {l : List (Str × α)} {z : Str} (x : α) (h : z ∈ l.map (·.1)) : (putL l z x).map (·.1) = l.map (·.1) := by
  unfold putL
  rw [if_pos h, List.map_map]
  refine List.map_congr_left fun p _ => ?_
  show (if p.1 = z then (p.1, x) else p).1 = p.1
  split <;> rfl
theorem putL_nd {α : Type} {l : List (Str × α)} {z : Str} (x : α) (h : (l.map (·.1)).Nodup) : ((putL l z x).map (·.1)).Nodup := by
  by_cases e : z ∈ l.map (·.1)
  · rw [putL_keys x e]
    exact h
  · rw [putL_new x e, List.map_append]
    exact List.nodup_append.mpr ⟨h, by simp, fun a ha b hb q => by
      rw [List.map_cons, List.map_nil, List.mem_singleton] at hb
      rw [q, hb] at ha
      exact e ha⟩
theorem putL_len {α : Type} (l : List (Str × α)) (z : Str) (x : α) : (putL l z x).length ≤ l.length + 1 := by
  unfold putL
  split <;> simp
theorem putL_mem {α : Type} {l : List (Str × α)} {z : Str} {x : α} {p : Str × α} (h : p ∈ putL l z x) : p = (z, x) ∨ (p ∈ l ∧ p.1 ≠ z) := by
  unfold putL at h
  by_cases e : z ∈ l.map (·.1)
  · rw [if_pos e] at h
    obtain ⟨q, hq, e2⟩ := List.mem_map.mp h
    by_cases eq : q.1 = z
    · rw [if_pos eq, eq] at e2
      exact .inl e2.symm
    · rw [if_neg eq] at e2
      rw [← e2]
      exact .inr ⟨hq, eq⟩
  · rw [if_neg e] at h
    rcases List.mem_append.mp h with h | h
    · exact .inr ⟨h, fun q => e (by rw [← q]; exact List.mem_map.mpr ⟨p, h, rfl⟩)⟩
    · exact .inl (List.mem_singleton.mp h)
theorem strK_put {α : Type} {f : α → V} (l : List (Str × α)) (z : Str) (x : α) : putK (strK f l) (Sum.inr z : Key) (f x) = strK f (putL l z x) := by
  have ha : ((strK f l).any fun kv => decide (kv.1 = (Sum.inr z : Key))) = decide (z ∈ l.map (·.1)) := by
    induction l with
    | nil => rfl
    | cons p r ih =>
      show ((decide ((Sum.inr p.1 : Key) = Sum.inr z)) || ((strK f r).any fun kv => decide (kv.1 = (Sum.inr z : Key)))) = decide (z ∈ p.1 :: r.map (·.1))
      rw [ih]
      by_cases e : p.1 = z
      · simp [e]
      · have e2 : ¬ z = p.1 := fun q => e q.symm
        simp [e, e2]
  unfold putK putL
  rw [ha]
  by_cases e : z ∈ l.map (·.1)
  · rw [if_pos (decide_eq_true e), if_pos e]
    show (List.map _ (List.map _ l)) = List.map _ (List.map _ l)
    rw [List.map_map, List.map_map]
    refine List.map_congr_left fun p _ => ?_
    show (if (Sum.inr p.1 : Key) = Sum.inr z then ((Sum.inr p.1 : Key), f x) else (Sum.inr p.1, f p.2)) = ((Sum.inr (if p.1 = z then (p.1, x) else p).1 : Key), f (if p.1 = z then (p.1, x) else p).2)
    by_cases h : p.1 = z
    · rw [if_pos h, if_pos (by rw [h])]
    · rw [if_neg h, if_neg (fun q => h (Sum.inr.inj q))]
  · rw [if_neg (by simp only [decide_eq_true_eq]; exact e), if_neg e]
    exact (List.map_append (l₁ := l) (l₂ := [(z, x)]) (f := fun p : Str × α => ((Sum.inr p.1 : Key), f p.2))).symm
theorem lookup_mem {α : Type} {l : List (Str × α)} {z : Str} {x : α} (h : l.lookup z = some x) : (z, x) ∈ l := by
  induction l with
  | nil => cases h
  | cons p r ih =>
    rw [List.lookup_cons] at h
    by_cases e : z = p.1
    · subst e
      rw [beq_self_eq_true] at h
      cases h
      exact List.mem_cons_self
    · have e2 : (z == p.1) = false := by simpa using e
      rw [e2] at h
      exact List.mem_cons_of_mem _ (ih h)
theorem lookup_of {α : Type} {l : List (Str × α)} (hn : (l.map (·.1)).Nodup) {z : Str} {x : α} (h : (z, x) ∈ l) : l.lookup z = some x := by
  induction l with
  | nil => cases h
  | cons p r ih =>
    obtain ⟨h1, h2⟩ := List.nodup_cons.mp (show (p.1 :: r.map (·.1)).Nodup from hn)
    rw [List.lookup_cons]
    rcases List.mem_cons.mp h with e | h
    · rw [← e]
      simp
    · have ne : ¬ z = p.1 := fun q => h1 (by rw [← q]; exact List.mem_map.mpr ⟨(z, x), h, rfl⟩)
      have e2 : (z == p.1) = false := by simpa using ne
      rw [e2]
      exact ih h2 h
theorem lookup_isSome {α : Type} {l : List (Str × α)} {z : Str} (h : z ∈ l.map (·.1)) : ∃ x, l.lookup z = some x := by
  induction l with
  | nil => cases h
  | cons p r ih =>
    rw [List.lookup_cons]
    by_cases e : z = p.1
    · subst e
      exact ⟨p.2, by simp⟩
    · have e2 : (z == p.1) = false := by simpa using e
      rw [e2]
      exact ih ((List.mem_cons.mp h).resolve_left e)
theorem lookup_none {α : Type} {l : List (Str × α)} {z : Str} (h : z ∉ l.map (·.1)) : l.lookup z = none := by
  cases e : l.lookup z with
  | none => rfl
  | some x => exact absurd (List.mem_map.mpr ⟨_, lookup_mem e, rfl⟩) h
theorem lookup_perm {α : Type} {l l' : List (Str × α)} (hp : l'.Perm l) (hn : (l.map (·.1)).Nodup) (z : Str) : l'.lookup z = l.lookup z := by
  have hn' : (l'.map (·.1)).Nodup := (List.Perm.nodup_iff (hp.map _)).mpr hn
  cases e : l.lookup z with
  | some x => exact lookup_of hn' (hp.mem_iff.mpr (lookup_mem e))
  | none =>
    cases e2 : l'.lookup z with
    | none => rfl
    | some x =>
      have := lookup_of hn (hp.mem_iff.mp (lookup_mem e2))
      rw [e] at this
      cases this
/-- the same table, its keys in another order -/
theorem table_perm {α : Type} {l : List (Str × α)} {ys : List Str} (hn : (l.map (·.1)).Nodup) (hp : ys.Perm (l.map (·.1))) (d : α) : (ys.map fun z => (z, (l.lookup z).getD d)).Perm l := by
  have h1 := hp.map fun z => (z, (l.lookup z).getD d)
  have h2 : (l.map (·.1)).map (fun z => (z, (l.lookup z).getD d)) = l := by
    rw [List.map_map]
    conv => rhs; rw [← List.map_id l]
    refine List.map_congr_left fun p hp => ?_
    show (p.1, (l.lookup p.1).getD d) = p
    rw [lookup_of hn (z := p.1) (x := p.2) hp]
    rfl
  rw [h2] at h1
  exact h1
section
variable {σ : L2.St} {H : Hp} {n : L2.St → Hp → Prop} {r : VK} {b c : L2.St → Hp → Prop} {ta tv : TE} {K : PySem.W.Frag}
def rSfA (K : PySem.W.Frag) (f : Str) (x y : V) (H : Hp) (N : Hp → Prop) : Prop := ∃ a C dx fs, x = .ref a ∧ H a = some (.ins C dx fs) ∧ Cls K C ∧ NoAttr K C f ∧ fs.length < 1000 ∧ N (upd H a (.ins C dx (putF f y fs)))
theorem x_sfld {f : Str} (h : tv σ H fun y H1 => ta σ H1 fun x H2 => rSfA K f x y H2 fun H3 => n σ H3) : sFld K ta tv f ⟨n, r, b, c⟩ σ H := h
theorem x_sf {a C dx : Addr} {fs : List (Str × V)} {f : Str} {y : V} {N : Hp → Prop} (hc : Cls K C) (hn : NoAttr K C f) (h : H a = some (.ins C dx fs)) (hl : fs.length < 1000) (q : N (upd H a (.ins C dx (putF f y fs)))) : rSfA K f (.ref a) y H N :=
  ⟨a, C, dx, fs, rfl, h, hc, hn, hl, q⟩
end
end Ox
namespace Ox
open PySem PySem.Spec PyProof.Rows L2
/-! ### rules with the written part told by a letter (for a comprehension's block) -/
section
variable {X : Cx} {K : PySem.W.Frag}
theorem ix_listK (e : X.K = K := by rfl) : IxR X (rIxL K) := e ▸ ix_list
theorem ix_tupK (e : X.K = K := by rfl) : IxR X (rIxT K) := e ▸ ix_tup
theorem call_lenAK (e : X.K = K := by rfl) : CallR X (.builtin "len") (rLenA K) := e ▸ call_lenA
theorem op_in_seqK (e : X.K = K := by rfl) : OpR X (compareOp .In) (rIn K false) := e ▸ op_in_seq
theorem op_notIn_seqK (e : X.K = K := by rfl) : OpR X (compareOp .NotIn) (rIn K true) := e ▸ op_notIn_seq
theorem call_isiK (e : X.K = K := by rfl) : CallR X (.builtin "isinstance") (rIsi K) := e ▸ call_isi
theorem call_listAK (e : X.K = K := by rfl) : CallR X (.type "list") (rListA K) := e ▸ call_listA
theorem call_tupleAK (e : X.K = K := by rfl) : CallR X (.type "tuple") (rTupleA K) := e ▸ call_tupleA
theorem sl_listK (e : X.K = K := by rfl) : SlR X (rSlL K) := e ▸ sl_list
theorem pe_fldK {o : Expr} {f : Str} {pos : Pos} {ta : TE} (he : PE X o ta) (hb : attributeBase o f X.env (eval o X.env) = eval o X.env) (e : X.K = K := by rfl) : PE X (.Attribute o f pos) (tFld K ta f) := e ▸ pe_fld he hb
end
end Ox
namespace Ox
open PySem PySem.Spec PyProof.Rows L2
theorem pg_tupK {X : Cx} {K : PySem.W.Frag} {es : List Expr} {k : Nat} {pos : Pos} {t : TGs} {n : Nat} (hc : X.calm = true) (h : PGs X es t) (hn : (assignEach es X.env).length = n := by rfl) (hst : (assignEach es X.env).findIdx? (·.1) = none := by rfl)
    (e : X.K = K := by rfl) : PG X (.Tuple es k pos) (gTup K n t) := e ▸ pg_tup hc h hn hst
end Ox
namespace Ox
open PySem PySem.Spec PyProof.Rows L2
theorem putL_old {α : Type} {l : List (Str × α)} {z : Str} (x : α) (h : z ∈ l.map (·.1)) : putL l z x = l.map fun p => if p.1 = z then (p.1, x) else p := by
  unfold putL
  rw [if_pos h]
theorem putL_putL {α : Type} (l : List (Str × α)) (z : Str) (a b : α) : putL (putL l z a) z b = putL l z b := by
  by_cases e : z ∈ l.map (·.1)
  · have e2 : z ∈ (putL l z a).map (·.1) := by rw [putL_keys a e]; exact e
    rw [putL_old b e2, putL_old b e, putL_old a e, List.map_map]
    refine List.map_congr_left fun p _ => ?_
    show (if (if p.1 = z then (p.1, a) else p).1 = z then ((if p.1 = z then (p.1, a) else p).1, b) else (if p.1 = z then (p.1, a) else p)) = _
    by_cases h : p.1 = z
    · simp [h]
    · simp [h]
  · have e2 : z ∈ (putL l z a).map (·.1) := by rw [putL_new a e]; simp
    rw [putL_old b e2, putL_new a e, putL_new b e, List.map_append]
    have h4 : (l.map fun p => if p.1 = z then (p.1, b) else p) = l := by
      conv => rhs; rw [← List.map_id l]
      refine List.map_congr_left fun p hp => ?_
      have : ¬ p.1 = z := fun q => e (by rw [← q]; exact List.mem_map.mpr ⟨p, hp, rfl⟩)
      rw [if_neg this]
      rfl
    rw [h4]
    simp
end Ox

/-! Own layer, second part: list(d.values()), kinds of values, own classes. -/
namespace Ox
open PySem PySem.Spec PyProof.Rows L2
/-! ### list(d.values()), list(d) -/
def rListVA (x : V) (H : Hp) (Q : VK) : Prop := ∃ (d : Addr) (kvs : List (Key × V)), x = .ref d ∧ Rd H d (.dK kvs) ∧ ∀ p, H p = none → Q (.ref p) (upd H p (.lst (kvs.map Prod.snd)))
def tListVA (te : TE) : TE := fun σ H Q => te σ H fun x H1 => rListVA x H1 Q
section
variable {X : Cx} {e : Expr} {te : TE} {p apos cpos pos : Pos}
theorem pe_listV (hc : X.calm = true) (he : PE X e te) (hg : Gl X "list") (hm : X.mg "list" = none) (hv : bootBuiltins "list" = some (.type "list") := by decide +kernel)
    (hbase : attributeBase e "values" X.env (eval e X.env) = eval e X.env := by rfl)
    (hline : (apos.endLine == cpos.line) = true := by rfl)
    (hs : starEach [.Call (.Attribute e "values" apos) [] [] cpos] X.env = (false, eval (.Call (.Attribute e "values" apos) [] [] cpos) X.env) :: starEach [] X.env := by rfl) :
    PE X (.Call (.Name "list" p) [.Call (.Attribute e "values" apos) [] [] cpos] [] pos) (tListVA te) := ⟨fun pins s σ H Q I hq => by
  refine wpAny_Call_Name_kw (ld_blt I hg hm hv (PyProof.Rows.callWith_type1 ?_ hs rfl))
  rw [hs]
  show wpAny _ _ (spliced ((false, eval (.Call (.Attribute e "values" apos) [] [] cpos) X.env) :: backTo pos (starEach [] X.env))) _ _ _
  refine Calls.spliced_cons (wpAny_Call_method (T := "dict") (id := "dict.values") hbase rfl hline F.plainAttrs_dict F.slot_dict_values F.type_dict_values ?_)
  refine thn (he.run pins s σ H _ I hq) fun u s1 ⟨x, H1, I1, rx, d, kvs, ex, hd, q⟩ => ?_
  subst ex
  obtain rfl : u = Value.ref d := rx
  obtain ⟨hz, hs0, ws, kv, hdo⟩ := (show ObjOk X.prog X.w H1 s1.heap d (.dK kvs) from hd.ok I1.hok)
  obtain ⟨ep, hat⟩ := hdo.dictAt
  have lk : kvs.length = ws.length := Paired.length kv
  have I2 : Inv X pins σ H1 { s1 with heap := s1.heap.push { cls := .type "dict_values", data := .fields #[.ref d] } } := I1.kept fun b ob q => Heap.get?_push_of_some _ q
  refine ⟨hdo.typeIs, hdo.mapOf.noDict, ?_⟩
  show wpAny _ _ (callWith cpos (.builtin "dict.values") [.ref d] [] []) _ X.xe s1
  refine method_meetsIn F.slot_dict_values F.entry_dict_values rfl (PySem.evalArgs_none ⟨rfl, hdo.typeIs, F.args_dict_values_1 _, _, meets_dict_values (mixKind X.prog X.w) d hs0, ⟨ws, hdo⟩, Calls.spliced_nil ?_⟩)
  refine PySem.W.kdl_call (PySem.W.kdl_values (knd := mixKind X.prog X.w) (kvs := ws) (ep := ep)) (I1.ok.hd hc) ⟨⟨_, Heap.get?_push_size _ rfl, rfl, rfl⟩, hat.push _⟩ (by omega) fun h' tk acc c hk hS hacc => ?_
  refine ⟨.ref _, upd H1 _ (.lst (kvs.map Prod.snd)), I2.laid hk (Nat.le_refl _) (show ObjOk X.prog X.w _ _ _ (.lst (kvs.map Prod.snd)) from ⟨by rw [List.length_map]; exact hz, acc.toList, c, ?_, by rw [Array.toArray_toList]; exact hS⟩), rfl, q _ (I2.hok.fresh (Nat.le_refl _))⟩
  have el : acc.toList.length = acc.size := by simp
  refine vals_of_at (by rw [List.length_map, el, hacc.1, lk]) fun j x w h1 h2 => ?_
  obtain ⟨k, hky⟩ := hacc.2 j w (by rw [← Array.getElem?_toList]; exact h2)
  rw [List.getElem?_map] at h1
  cases e2 : kvs[j]? with
  | none => rw [e2] at h1; cases h1
  | some kvj =>
    rw [e2] at h1
    have h3 : kvj.2 = x := Option.some.inj h1
    obtain ⟨y, hy, _, ry⟩ := LiI.paired_get kv e2
    rw [hky] at hy
    cases hy
    rw [← h3]
    exact ry⟩
end
theorem x_listV {σ : L2.St} {H : Hp} {Q : VK} {te : TE} (h : te σ H fun x H1 => rListVA x H1 Q) : tListVA te σ H Q := h
theorem x_listv {H : Hp} {Q : VK} {d : Addr} {kvs : List (Key × V)} (h : Rd H d (.dK kvs)) (q : ∀ p, H p = none → Q (.ref p) (upd H p (.lst (kvs.map Prod.snd)))) : rListVA (.ref d) H Q := ⟨d, kvs, rfl, h, q⟩
theorem x_listD {H : Hp} {Q : VK} {d : Addr} {kvs : List (Key × V)} (h : H d = some (.dK kvs)) (q : ∀ p, H p = none → Q (.ref p) (upd H p (.lst (kvs.map fun kv => kV kv.1)))) : rListD [.ref d] H Q := ⟨d, kvs, rfl, h, q⟩
/-! ### kinds of values -/
inductive Kn where
  | non | bl | int | str | lst | tup | dict
  deriving DecidableEq
def Kn.ty : Kn → String
  | .non => "NoneType" | .bl => "bool" | .int => "int" | .str => "str" | .lst => "list" | .tup => "tuple" | .dict => "dict"
/-- x is of the kind -/
inductive Kd (K : PySem.W.Frag) (H : Hp) : V → Kn → Prop where
  | non : Kd K H .non .non
  | bl (b : Bool) : Kd K H (.bl b) .bl
  | int (i : Int) : Kd K H (.int i) .int
  | str (z : Str) : Kd K H (.str z) .str
  | lst {a : Addr} {xs : List V} (h : SqL K H a xs) : Kd K H (.ref a) .lst
  | tup {a : Addr} {xs : List V} (h : SqT K H a xs) : Kd K H (.ref a) .tup
  | dict {a : Addr} {kvs : List (Key × V)} (h : Rd H a (.dK kvs)) : Kd K H (.ref a) .dict
theorem Kd.tyx {K : PySem.W.Frag} {H : Hp} {x : V} {k : Kn} (h : Kd K H x k) : TyX K H x (.type k.ty) := by
  cases h with
  | non => exact .base .non
  | bl b => exact .base (.bl b)
  | int i => exact .base (.int i)
  | str z => exact .base (.str z)
  | lst h =>
    rcases h with (h | ⟨o, h⟩) | ⟨o, its, n, h1, h2, _⟩
    · exact .base (.lst h)
    · exact .base (.frz h)
    · exact .kList h1 h2
  | tup h =>
    rcases h with (h | ⟨o, h⟩) | ⟨o, its, n, h1, h2, _⟩
    · exact .base (.tup h)
    · exact .fTuple h
    · exact .kTuple h1 h2
  | dict h =>
    rcases h with h | ⟨o, h⟩
    · exact .base (.dK h)
    · exact .fDict h
def isB : Kn → Kn → Bool
  | .non, .non => true | .bl, .bl => true | .bl, .int => true | .int, .int => true | .str, .str => true | .lst, .lst => true | .tup, .tup => true | .dict, .dict => true
  | _, _ => false
theorem kitB_is : ∀ k T : Kn, T ≠ .non → kitB k.ty T.ty = some (isB k T) := by
  intro k T hT
  cases T with
  | non => exact absurd rfl hT
  | _ => cases k <;> decide +kernel
section
variable {K : PySem.W.Frag} {H : Hp} {Q : VK} {x : V} {k : Kn}
theorem x_isi (T : Kn) (h : Kd K H x k) (q : Q (.bl (isB k T)) H) (hT : T ≠ .non := by decide) : rIsi K [x, .ty T.ty] H Q := ⟨x, _, _, _, _, rfl, .ty _, h.tyx, kit_ty (kitB_is k T hT), q⟩
theorem x_isiInt (h : Kd K H x k) (q : Q (.bl (isB k .int)) H) : rIsi K [x, .ty "int"] H Q := x_isi .int h q
theorem x_isiBool (h : Kd K H x k) (q : Q (.bl (isB k .bl)) H) : rIsi K [x, .ty "bool"] H Q := x_isi .bl h q
theorem x_isiStr (h : Kd K H x k) (q : Q (.bl (isB k .str)) H) : rIsi K [x, .ty "str"] H Q := x_isi .str h q
theorem x_isiList (h : Kd K H x k) (q : Q (.bl (isB k .lst)) H) : rIsi K [x, .ty "list"] H Q := x_isi .lst h q
theorem x_isiTup (h : Kd K H x k) (q : Q (.bl (isB k .tup)) H) : rIsi K [x, .ty "tuple"] H Q := x_isi .tup h q
theorem x_isiDict (h : Kd K H x k) (q : Q (.bl (isB k .dict)) H) : rIsi K [x, .ty "dict"] H Q := x_isi .dict h q
end
/-! ### own classes: isinstance -/
/-- the class at C: what isinstance asks of it -/
structure Isc (K : PySem.W.Frag) (C : Addr) : Prop where
  cl : Cls K C
  ha : PySem.W.findIn K (.ref C) "__class__" = some (some (.builtin "object.__class__"))
  hn : PySem.W.specialIn K (.builtin "object.__class__") "__get__" = some (some (.builtin "getset_descriptor.__get__"))
  ht : PySem.W.takesIn K (.builtin "object.__class__") = some true
  hm : PySem.W.mroIn K C (.type "object") = some true
theorem x_isiOwn {K : PySem.W.Frag} {H : Hp} {Q : VK} {a C D dx : Addr} {fs : List (Str × V)} {b : Bool} (i : Isc K C) (h : H a = some (.ins C dx fs)) (hk : PySem.W.kitOne K (.ref C) (.ref D) = some b) (q : Q (.bl b) H) : rIsi K [.ref a, .ref D] H Q :=
  ⟨_, _, _, _, _, rfl, .own D, .base (.ins h i.cl i.ha i.hn i.ht i.hm), hk, q⟩
def iscB (C : Str) : PySem.W.Frag → Bool := fun K => (He.Fa.cls C).ok K && (He.eqO (PySem.W.findIn K (.ref (He.ga K C)) "__class__") (some (some (.builtin "object.__class__"))) && (He.eqO (PySem.W.specialIn K (.builtin "object.__class__") "__get__") (some (some (.builtin "getset_descriptor.__get__"))) &&
  (decide (PySem.W.takesIn K (.builtin "object.__class__") = some true) && decide (PySem.W.mroIn K (He.ga K C) (.type "object") = some true))))
theorem iscB_ok {C : Str} {K : PySem.W.Frag} (h : iscB C K = true) : Isc K (He.ga K C) := by
  obtain ⟨h1, h⟩ := Bool.and_eq_true_iff.mp h
  obtain ⟨h2, h⟩ := Bool.and_eq_true_iff.mp h
  obtain ⟨h3, h⟩ := Bool.and_eq_true_iff.mp h
  obtain ⟨h4, h5⟩ := Bool.and_eq_true_iff.mp h
  exact ⟨He.cls_ok h1, He.eqO_ok h2, He.eqO_ok h3, of_decide_eq_true h4, of_decide_eq_true h5⟩
/-- kitOne between own classes, told as a fact -/
def kitF (C D : Str) (b : Bool) : PySem.W.Frag → Bool := fun K => decide (PySem.W.kitOne K (.ref (He.ga K C)) (.ref (He.ga K D)) = some b)
theorem kitF_ok {C D : Str} {b : Bool} {K : PySem.W.Frag} (h : kitF C D b K = true) : PySem.W.kitOne K (.ref (He.ga K C)) (.ref (He.ga K D)) = some b := of_decide_eq_true h
end Ox
namespace Ox
open PySem PySem.Spec PyProof.Rows L2
/-! ### == by an own __eq__, any answer -/
def rEqOwn (C : Addr) (sp : Sp) : R2 := fun x y H Q => ∃ a b dx dy fs gs, x = .ref a ∧ y = .ref b ∧ H a = some (.ins C dx fs) ∧ H b = some (.ins C dy gs) ∧ sp [.ref a, .ref b] H (fun v H' => ∃ k, v = .bl k ∧ Q (.bl k) H') E0
theorem op_eqOwn {X : Cx} {C : Addr} {k : Nat} {sp : Sp} {ps : List Str} (M : Met X.prog X.w X.K X.mg X.base C k "__eq__" ps sp) (hr : Room k X.A) : OpR X (compareOp .Eq) (rEqOwn C sp) := by
  obtain ⟨f, fd, mt, F, hb⟩ := M.ex
  intro pins s σ H x y u v Q I rx ry h
  obtain ⟨a, b, dx, dy, fs, gs, rfl, rfl, ha, hb2, hsp⟩ := h
  cases rx
  cases ry
  obtain ⟨mA, J, _⟩ := ins_get I.hok ha
  obtain ⟨mB, J2, _⟩ := ins_get I.hok hb2
  obtain ⟨od, J, _⟩ := J.look
  obtain ⟨od2, J2, _⟩ := J2.look
  obtain ⟨m, hF⟩ := I.fr
  show wpAny (model X.prog X.w) X.A (richCompare .Eq (.ref a) (.ref b)) (EP X pins σ Q) X.xe s
  refine PySem.W.cmp_K (op := .Eq) (tb := .ref C) hr.units0 hF I.ok.mod.kin J J2.type (by simp [PySem.W.notFirst]) mt.at_ mt.fn ?_
  have hl := F.len _ _ _ _ hsp
  have r2 : Vals [V.ref a, V.ref b] [Value.ref a, Value.ref b] := .cons rfl (.cons rfl .nil)
  refine wpAny_call (codeAny_mono (F.run X.A X.stack s H ⟨[.ref a, .ref b], []⟩ [.ref a, .ref b] [.ref a, .ref b] _ E0 hr I.env0 (by
    have := hb s [.ref a, .ref b] I.kIn (by simpa using hl)
    simpa using this) r2 hsp) fun r s' hq => ?_)
  cases r with
  | error e => exact hq.elim
  | ok fl =>
    cases fl with
    | ret w =>
      obtain ⟨z, H', I', rz, kk, ez, q⟩ := I.after hq
      subst ez
      cases rz
      exact ⟨.bl kk, H', I', rfl, q⟩
    | next => exact False.elim hq
    | brk => exact False.elim hq
    | cont => exact False.elim hq
theorem x_eqOwn {C : Addr} {sp : Sp} {H : Hp} {Q : VK} {a b dx dy : Addr} {fs gs : List (Str × V)} (ha : H a = some (.ins C dx fs)) (hb : H b = some (.ins C dy gs)) (h : sp [.ref a, .ref b] H (fun v H' => ∃ k, v = .bl k ∧ Q (.bl k) H') E0) : rEqOwn C sp (.ref a) (.ref b) H Q :=
  ⟨a, b, dx, dy, fs, gs, rfl, rfl, ha, hb, h⟩
end Ox
namespace Ox
open PySem PySem.Spec PyProof.Rows L2
theorem Kd.same {K : PySem.W.Frag} {H H' : Hp} {x : V} {k : Kn} (s : L2.Same H H') (h : Kd K H x k) : Kd K H' x k := by
  cases h with
  | non => exact .non
  | bl b => exact .bl b
  | int i => exact .int i
  | str z => exact .str z
  | lst h => exact .lst (s.seq h)
  | tup h => exact .tup (same_t s h)
  | dict h => exact .dict (same_rd s h)
/-- .. where one dict is held -/
theorem Kd.held {K : PySem.W.Frag} {H : Hp} {x : V} {k : Kn} {d : Addr} {o : Obj} {kvs : List (Key × V)} (hd : H d = some (.dK kvs)) (h : Kd K H x k) : Kd K (upd H d (.frz o (.dK kvs))) x k := by
  have rd : ∀ {a u}, Rd H a u → Rd (upd H d (.frz o (.dK kvs))) a u := fun {a u} h => by
    by_cases e : a = d
    · subst e
      rcases h with h | ⟨o', h⟩
      · rw [hd] at h
        cases h
        exact .inr ⟨o, upd_same⟩
      · rw [hd] at h
        cases h
    · rcases h with h | ⟨o', h⟩
      · exact .inl (by rw [upd_ne e]; exact h)
      · exact .inr ⟨o', by rw [upd_ne e]; exact h⟩
  cases h with
  | non => exact .non
  | bl b => exact .bl b
  | int i => exact .int i
  | str z => exact .str z
  | lst h => exact .lst (h.elim (fun h => .inl (rd h)) .inr)
  | tup h => exact .tup (h.elim (fun h => .inl (rd h)) .inr)
  | dict h => exact .dict (rd h)
end Ox
namespace Ox
open PySem PySem.Spec PyProof.Rows L2
section
variable {σ : L2.St} {H : Hp} {Q : VK} {ta : TE} {K : PySem.W.Frag} {C : Addr} {sp : Sp}
def rRevA (K : PySem.W.Frag) (x : V) (H : Hp) (Q : VK) : Prop := ∃ a xs, x = .ref a ∧ SqL K H a xs ∧ ∀ p, H p = none → Q (.ref p) (upd H p (.lst xs.reverse))
theorem x_revL (h : ta σ H fun x H1 => rRevA K x H1 Q) : tRevL K ta σ H Q := h
theorem x_rev {a : Addr} {xs : List V} (h : SqL K H a xs) (q : ∀ p, H p = none → Q (.ref p) (upd H p (.lst xs.reverse))) : rRevA K (.ref a) H Q := ⟨a, xs, rfl, h, q⟩
def rPropA (C : Addr) (sp : Sp) (x : V) (H : Hp) (Q : VK) : Prop := ∃ a dx fs, x = .ref a ∧ H a = some (.ins C dx fs) ∧ sp [.ref a] H Q E0
theorem x_prop (h : ta σ H fun x H1 => rPropA C sp x H1 Q) : tProp C sp [] E0 ta σ H Q := h
theorem x_prp {a dx : Addr} {fs : List (Str × V)} (h : H a = some (.ins C dx fs)) (q : sp [.ref a] H Q E0) : rPropA C sp (.ref a) H Q := ⟨a, dx, fs, rfl, h, q⟩
theorem x_putL {α : Type} {f : α → V} {l : List (Str × α)} {z : Str} {x : α} {v : V} {p : Addr} {N : Hp → Prop} (h : H p = some (.dK (strK f l))) (hl : l.length < 10000) (hv : v = f x) (q : N (upd H p (.dK (strK f (putL l z x))))) : rDputA (.ref p) (.str z) v H N := by
  subst hv
  refine x_putS h (sz_lt (by rw [List.length_map]; exact hl)) ?_
  rw [strK_put]
  exact q
theorem x_getL {α : Type} {f : α → V} {l : List (Str × α)} {z : Str} {x : α} {p : Addr} (h : Rd H p (.dK (strK f l))) (e : l.lookup z = some x) (q : Q (f x) H) : rGetA (.ref p) (.str z) H Q :=
  x_getS h (by rw [strK_look, e]; rfl) q
theorem x_inD {α : Type} {f : α → V} {l : List (Str × α)} {z : Str} {p : Addr} (h : Rd H p (.dK (strK f l))) (q : Q (.bl (l.lookup z).isSome) H) : rDinA (.str z) (.ref p) H Q := by
  refine x_dinS h ?_
  rw [strK_look, Option.isSome_map]
  exact q
theorem x_ninD {α : Type} {f : α → V} {l : List (Str × α)} {z : Str} {p : Addr} (h : Rd H p (.dK (strK f l))) (q : Q (.bl (!(l.lookup z).isSome)) H) : rDninA (.str z) (.ref p) H Q := by
  refine x_dninS h ?_
  rw [strK_look, Option.isSome_map]
  exact q
end
end Ox
namespace Ox
open PySem PySem.Spec PyProof.Rows L2
/-- a dict was held, then set free -/
theorem same_back {H H' : Hp} {d : Addr} {o : Obj} {u : HO} (hd : H d = some u) (s : L2.Same (upd H d (.frz o u)) H') : L2.Same H (upd H' d u) := fun b x e => by
  by_cases hb : b = d
  · subst hb
    rw [hd] at e
    rw [upd_same, e]
  · rw [upd_ne hb]
    exact s b x (by rw [upd_ne hb]; exact e)
theorem rd_held {H : Hp} {d n : Addr} {o : Obj} {u x : HO} (hn : n ≠ d) (h : Rd H n x) : Rd (upd H d (.frz o u)) n x := by
  rcases h with h | ⟨o', h⟩
  · exact .inl (by rw [upd_ne hn]; exact h)
  · exact .inr ⟨o', by rw [upd_ne hn]; exact h⟩
theorem upd_id {H : Hp} {d : Addr} {u : HO} (h : H d = some u) : upd H d u = H := by
  funext b
  by_cases hb : b = d
  · subst hb; rw [upd_same, h]
  · rw [upd_ne hb]
/-! ### while x: -/
section
variable {tb : TS} {σ : L2.St} {H : Hp} {n : L2.St → Hp → Prop} {r : VK} {b k : L2.St → Hp → Prop} {i : Nat}
/-- W m: what holds ahead of the test, m goes down -/
theorem lpWv (W : Nat → L2.St → Hp → Prop) {m : Nat} (h0 : W m σ H) (hs : ∀ m σ H, W m σ H → ∃ z, σ[i]? = some (some (.bl z)) ∧
    if z = true then tb ⟨fun σ' H' => ∃ m', m' < m ∧ W m' σ' H', r, n, fun σ' H' => ∃ m', m' < m ∧ W m' σ' H'⟩ σ H else n σ H) : tWhile (tTest (tVar i)) tb ⟨n, r, b, k⟩ σ H := by
  refine ⟨W, ⟨m, h0⟩, fun m σ H h => ?_⟩
  obtain ⟨z, hz, q⟩ := hs m σ H h
  refine ⟨.bl z, hz, z, rfl, ?_⟩
  cases z with
  | true => exact ⟨fun σ' H' => ∃ m', m' < m ∧ W m' σ' H', fun _ _ h => h, q⟩
  | false => exact q
end
end Ox

/-! Own layer, third part: name = {k: v for ..}. -/
namespace Ox
open PySem PySem.Spec PyProof.Rows L2
section
variable {X : Cx}
theorem sw_trueD {kx vx : Expr} {gs : List Comprehension} {scope : Scope} {pos py : Pos} {y : Str} {l : Nat} {env : Env} (hk : env.scope.kind = .function) (hy : env.scope.names.lookup y = some .local) (hl : (py.line == pos.line) = true)
    (ha : (scope.names.any fun (n, k) => n == y && (k == .local || k == .cell)) = false) : swapsWith (.DictComp kx vx gs scope pos) (some (.Name y py)) l env = pure true := by
  have k1 : env.kindOf y = some .local := hy
  have k2 : env.blockKind = .function := by unfold Env.blockKind; rw [hk]; rfl
  unfold swapsWith; simp only [k2, k1, ha, Expr.pos, hl]; rfl
theorem ps_setDc {i : Nat} {y : Str} {py : Pos} {kx vx tg iter : Expr} {ifs : List Expr} {scope : Scope} {own : List (Str × Nat)} {pos spos : Pos} {wi : TI} {g : TG} {tt : TT} {tk tv : TE} (hc : X.calm = true) (hN : X.N.Nodup) (hy : X.N[i]? = some y) (hyl : X.env.scope.names.lookup y = some .local)
    (hsw : swapsWith (.DictComp kx vx [⟨tg, iter, ifs, 0⟩] scope pos) (some (.Name y py)) spos.line X.env = pure true) (hi : PI X tg iter wi) (ok : BlkOk X.N X.env.scope scope own)
    (hg : ∀ (s : Shared) (H : Hp) (C : Addr) (cl : List (Str × Addr)) (fp : List Addr), PG (X.blk s H scope (compEnvC scope cl C X.env) fp) tg g) (htt : ∀ (s : Shared) (H : Hp) (C : Addr) (cl : List (Str × Addr)) (fp : List Addr), PTs (X.blk s H scope (compEnvC scope cl C X.env) fp) ifs tt)
    (hkx : ∀ (s : Shared) (H : Hp) (C : Addr) (cl : List (Str × Addr)) (fp : List Addr), PE (X.blk s H scope (compEnvC scope cl C X.env) fp) kx tk) (hvx : ∀ (s : Shared) (H : Hp) (C : Addr) (cl : List (Str × Addr)) (fp : List Addr), PE (X.blk s H scope (compEnvC scope cl C X.env) fp) vx tv)
    (hs : ∀ x, foldedSetIterable iter X.env x = pure x := by intro _; rfl) :
    PS X (.Assign [.Name y py] (.DictComp kx vx [⟨tg, iter, ifs, 0⟩] scope pos) spos) (tAsg (tDc wi g tt tk tv (own.map (·.2))) (gName i)) := by
  constructor; intro pins s σ H D I h; rw [exec_Assign_Name_used _ _ _ _ hsw]; refine wpAny_bind (wpAny_standAt (wpAny_bind ?_))
  show wpAny _ X.A (do let _ ← comprehension (.DictComp kx vx [⟨tg, iter, ifs, 0⟩] scope pos) scope X.env (firstIterPos [⟨tg, iter, ifs, 0⟩] pos) newDict false (eval iter X.env) (some (assign (.Name y py) X.env))) _ _ s
  have h2 : tDc wi g tt tk tv (own.map (·.2)) σ H (fun x H1 => gName i x σ H1 D.nx) := h
  refine wpAny_bind (thn (dc_core (Qf := fun _ s' => SP X pins D .next s') hc hN I hi ok hg htt hkx hvx hs h2 fun L C s' m H' I' q hn f => ?_) fun _ s' hq => wpAny_pure (wpAny_pure hq))
  show wpAny _ _ (assign (.Name y py) X.env (.ref L)) _ _ _
  refine wpAny_assign_Name (store_ok2 (v := V.ref L) I' hN hy (.inl hyl) rfl (fun s2 I2 ⟨a, sb, ha⟩ => ?_) (.inr hyl)); obtain ⟨f0, f1, f2, f3, f4, f5⟩ := f
  have haC : C ≠ a := by rcases ha with z | z; (· rw [z]; exact f1); (· exact fun e => f4 y a z e.symm)
  refine ⟨m, hn.sameBut sb haC, fun h3 sb3 => ⟨_, H', I2.turned (t' := s2.toks) (fun b o hb e => (sb3.2 b hb).trans e) f0 f1 f3 f4 f5, q⟩⟩
end
end Ox
namespace Ox
open PySem PySem.Spec PyProof.Rows L2
/-! ### sorted texts: one order -/
theorem nlt_trans : ∀ a b c : List Nat, ltCps b a = false → ltCps c b = false → ltCps c a = false
  | [], _, [], _, _ => rfl
  | [], [], _ :: _, _, _ => rfl
  | [], _ :: _, _ :: _, _, _ => rfl
  | _ :: _, [], _, h, _ => by cases h
  | _ :: _, _ :: _, [], _, h => by cases h
  | a :: r, b :: t, c :: u, h1, h2 => by
    have e1 : (decide (b < a) || (b == a && ltCps t r)) = false := h1
    have e2 : (decide (c < b) || (c == b && ltCps u t)) = false := h2
    show (decide (c < a) || (c == a && ltCps u r)) = false
    rw [Bool.or_eq_false_iff, decide_eq_false_iff_not] at e1 e2 ⊢
    refine ⟨by omega, ?_⟩
    by_cases h : c = a
    · have hb : b = a := by omega
      have hc : c = b := by omega
      have f1 := e1.2
      have f2 := e2.2
      rw [hb, beq_self_eq_true, Bool.true_and] at f1
      rw [hc, beq_self_eq_true, Bool.true_and] at f2
      rw [nlt_trans r t u f1 f2, Bool.and_false]
    · rw [beq_eq_false_iff_ne.mpr h, Bool.false_and]
theorem nlt_anti : ∀ a b : List Nat, ltCps b a = false → ltCps a b = false → a = b
  | [], [], _, _ => rfl
  | [], _ :: _, _, h => by cases h
  | _ :: _, [], h, _ => by cases h
  | a :: r, b :: t, h1, h2 => by
    have e1 : (decide (b < a) || (b == a && ltCps t r)) = false := h1
    have e2 : (decide (a < b) || (a == b && ltCps r t)) = false := h2
    rw [Bool.or_eq_false_iff, decide_eq_false_iff_not] at e1 e2
    have hb : b = a := by omega
    subst hb
    have f1 := e1.2
    have f2 := e2.2
    rw [beq_self_eq_true, Bool.true_and] at f1 f2
    rw [nlt_anti r t f1 f2]
abbrev LeS (a b : Str) : Prop := ltCps b.cps.toList a.cps.toList = false
theorem rising_pw : ∀ (p : Str) (l : List Str), risingS p l = true → (p :: l).Pairwise LeS
  | p, [], _ => List.pairwise_singleton _ _
  | p, x :: r, h => by
    have h1 : (!ltCps x.cps.toList p.cps.toList && risingS x r) = true := h
    rw [Bool.and_eq_true, Bool.not_eq_true'] at h1
    have ih := rising_pw x r h1.2
    refine List.pairwise_cons.mpr ⟨fun y hy => ?_, ih⟩
    rcases List.mem_cons.mp hy with e | hy
    · subst e
      exact h1.1
    · exact nlt_trans _ _ _ h1.1 ((List.pairwise_cons.mp ih).1 y hy)
theorem sorted_pw {l : List Str} (h : sortedS l = true) : l.Pairwise LeS := by
  cases l with
  | nil => exact .nil
  | cons x r => exact rising_pw x r h
theorem str_ext {a b : Str} (h : a.cps.toList = b.cps.toList) : a = b := by
  cases a with
  | mk a =>
    cases b with
    | mk b =>
      have e : a = b := Array.toList_inj.mp h
      rw [e]
theorem sorted_one {l l' : List Str} (h : sortedS l = true) (h' : sortedS l' = true) (p : l.Perm l') : l = l' :=
  List.Perm.eq_of_pairwise (le := LeS) (fun a b _ _ h1 h2 => str_ext (nlt_anti _ _ h1 h2)) (sorted_pw h) (sorted_pw h') p
/-! ### a heap without one place -/
def wo (H : Hp) (a : Addr) : Hp := fun b => if b = a then none else H b
theorem wo_at {H : Hp} {a : Addr} : wo H a a = none := if_pos rfl
theorem wo_ne {H : Hp} {a b : Addr} (h : b ≠ a) : wo H a b = H b := if_neg h
theorem wo_same {H : Hp} {a : Addr} : L2.Same (wo H a) H := fun b o e => by
  by_cases h : b = a
  · subst h
    rw [wo_at] at e
    cases e
  · rw [wo_ne h] at e
    exact e
theorem wo_mono {H H' : Hp} {a : Addr} (s : L2.Same H H') : L2.Same (wo H a) (wo H' a) := fun b o e => by
  by_cases h : b = a
  · subst h
    rw [wo_at] at e
    cases e
  · rw [wo_ne h] at e ⊢
    exact s b o e
theorem wo_upd {H : Hp} {a : Addr} {u : HO} : wo (upd H a u) a = wo H a := by
  funext b
  by_cases h : b = a
  · subst h
    rw [wo_at, wo_at]
  · rw [wo_ne h, wo_ne h, upd_ne h]
theorem same_wo {H H' : Hp} {a : Addr} {u : HO} (s : L2.Same H H') : L2.Same (wo H a) (upd H' a u) := same_upd (wo_same.trans s) wo_at
theorem len_put {f : Str} {v : V} {fs : List (Str × V)} {k : Nat} (h : fs.length < k) : (putF f v fs).length < k + 1 := Nat.lt_of_le_of_lt (length_putF _ _ _) (Nat.succ_lt_succ h)
end Ox
namespace Ox
open PySem PySem.Spec PyProof.Rows L2
/-! ### slices -/
def rPartA (x : V) (H : Hp) (R : Option Int → Hp → Prop) : Prop := ∃ i, x = .int i ∧ R (some i) H
section
variable {σ : L2.St} {H : Hp} {Q : VK} {te : TE} {tl th : TO} {K : PySem.W.Frag} {R : Option Int → Hp → Prop}
theorem x_sl {r : V → Option Int → Option Int → Hp → VK → Prop} (h : te σ H fun x H1 => tl σ H1 fun l H2 => th σ H2 fun u H3 => r x l u H3 Q) : tSl r te tl th σ H Q := h
theorem x_nopart (h : R none H) : tNoPart σ H R := h
theorem x_part (h : te σ H fun x H1 => rPartA x H1 R) : tPart te σ H R := h
theorem x_parti {i : Int} (h : R (some i) H) : rPartA (.int i) H R := ⟨i, rfl, h⟩
theorem x_slL {p : Addr} {xs : List V} {lo hi : Option Int} (h : SqL K H p xs) (q : ∀ l, H l = none → Q (.ref l) (upd H l (.lst (cutV xs lo hi)))) : rSlL K (.ref p) lo hi H Q := ⟨p, xs, rfl, h, q⟩
theorem cut_from {xs : List V} {lo : Int} (h0 : 0 ≤ lo) (h1 : lo ≤ xs.length) : cutV xs (some lo) none = xs.drop lo.toNat := by
  obtain ⟨k, rfl⟩ : ∃ k : Nat, lo = (k : Int) := ⟨lo.toNat, by omega⟩
  unfold cutV
  rw [HT.sIx_nat, HT.sIx_none, Int.toNat_natCast]
  have hk : min k xs.length = k := by omega
  rw [hk]
  exact List.take_of_length_le (by rw [List.length_drop]; omega)
theorem cut_to {xs : List V} {hi : Int} (h0 : 0 ≤ hi) (h1 : hi ≤ xs.length) : cutV xs none (some hi) = xs.take hi.toNat := by
  obtain ⟨k, rfl⟩ : ∃ k : Nat, hi = (k : Int) := ⟨hi.toNat, by omega⟩
  unfold cutV
  rw [HT.sIx_nat, HT.sIx_none, Int.toNat_natCast]
  have hk : min k xs.length = k := by omega
  rw [hk]
  rfl
end
/-! ### a list of whole numbers, asked at a place -/
theorem pickI (L : List Int) {j : Int} (h0 : 0 ≤ j) (h1 : j < L.length) : ∃ g, (L.map V.int)[j.toNat]? = some (.int g) ∧ g ∈ L := by
  have hlt : j.toNat < L.length := by omega
  refine ⟨L[j.toNat], ?_, List.getElem_mem hlt⟩
  rw [List.getElem?_map, List.getElem?_eq_getElem hlt]
  rfl
theorem pickS (L : List Str) {j : Int} (h0 : 0 ≤ j) (h1 : j < L.length) : ∃ g, (L.map V.str)[j.toNat]? = some (.str g) ∧ L[j.toNat]? = some g := by
  have hlt : j.toNat < L.length := by omega
  refine ⟨L[j.toNat], ?_, List.getElem?_eq_getElem hlt⟩
  rw [List.getElem?_map, List.getElem?_eq_getElem hlt]
  rfl
/-! ### stores, asked again -/
theorem lookup_putL {α : Type} (l : List (Str × α)) (z : Str) (x : α) (y : Str) : (putL l z x).lookup y = if y = z then some x else l.lookup y := by
  by_cases hz : z ∈ l.map (·.1)
  · rw [putL_old x hz]
    have key : ∀ l : List (Str × α), (l.map fun p => if p.1 = z then (p.1, x) else p).lookup y = if y = z then (if z ∈ l.map (·.1) then some x else none) else l.lookup y := by
      intro l
      induction l with
      | nil => by_cases e : y = z <;> simp [e]
      | cons p r ih =>
        rw [List.map_cons, List.lookup_cons, List.lookup_cons, ih]
        by_cases ep : p.1 = z
        · rw [if_pos ep]
          by_cases e : y = z
          · have : (y == p.1) = true := by rw [e, ep]; exact beq_self_eq_true z
            simp [e, ep]
          · have : (y == p.1) = false := by rw [ep]; exact beq_eq_false_iff_ne.mpr e
            simp [e, this]
        · rw [if_neg ep]
          by_cases e : y = z
          · have h2 : (y == p.1) = false := by rw [e]; exact beq_eq_false_iff_ne.mpr fun q => ep q.symm
            have h3 : (z ∈ (p :: r).map (·.1)) ↔ z ∈ r.map (·.1) := by
              rw [List.map_cons, List.mem_cons]
              exact ⟨fun h => h.resolve_left fun q => ep q.symm, .inr⟩
            rw [h2]
            simp only [e, if_true]
            by_cases h4 : z ∈ r.map (·.1)
            · rw [if_pos h4, if_pos (h3.mpr h4)]
            · rw [if_neg h4, if_neg fun q => h4 (h3.mp q)]
          · simp only [e, if_false]
    rw [key l, if_pos hz]
  · rw [putL_new x hz, List.lookup_append]
    by_cases e : y = z
    · rw [if_pos e, e, lookup_none hz]
      simp
    · rw [if_neg e]
      cases hl : l.lookup y with
      | some v => rfl
      | none =>
        have e2 : (y == z) = false := beq_eq_false_iff_ne.mpr e
        simp [List.lookup, e2]
theorem putL_keys2 {α β : Type} {l : List (Str × α)} {m : List (Str × β)} (h : m.map (·.1) = l.map (·.1)) (z : Str) (x : α) (y : β) : (putL m z y).map (·.1) = (putL l z x).map (·.1) := by
  by_cases hz : z ∈ l.map (·.1)
  · rw [putL_keys x hz, putL_keys y (by rw [h]; exact hz), h]
  · rw [putL_new x hz, putL_new y (by rw [h]; exact hz), List.map_append, List.map_append, h]
    rfl
theorem putL_pos {α : Type} (l : List (Str × α)) (z : Str) (x : α) : 1 ≤ (putL l z x).length := by
  by_cases hz : z ∈ l.map (·.1)
  · rw [putL_old x hz, List.length_map]
    cases l with
    | nil => cases hz
    | cons p r => exact Nat.succ_le_succ (Nat.zero_le _)
  · rw [putL_new x hz, List.length_append]
    exact Nat.le_add_left _ _
/-! ### heaps without the pool -/
theorem but_wo {p : Addr} {H H' : Hp} (b : But p H H') : L2.Same (wo H p) (wo H' p) := fun x o e => by
  by_cases h : x = p
  · subst h
    rw [wo_at] at e
    cases e
  · rw [wo_ne h] at e ⊢
    exact b x o e h
theorem wo_upd_ne {H : Hp} {p D : Addr} {u : HO} (h : D ≠ p) : wo (upd H D u) p = upd (wo H p) D u := by
  funext b
  by_cases e : b = p
  · subst e
    rw [wo_at, upd_ne (Ne.symm h), wo_at]
  · rw [wo_ne e]
    by_cases e2 : b = D
    · subst e2
      rw [upd_same, upd_same]
    · rw [upd_ne e2, upd_ne e2, wo_ne e]
theorem wo_none {H : Hp} {p a : Addr} (h : H a = none) : wo H p a = none := by
  by_cases e : a = p
  · rw [e]; exact wo_at
  · rw [wo_ne e]; exact h
theorem wo_some {H : Hp} {p a : Addr} {o : HO} (h : wo H p a = some o) : H a = some o ∧ a ≠ p := by
  by_cases e : a = p
  · rw [e, wo_at] at h
    cases h
  · rw [wo_ne e] at h
    exact ⟨h, e⟩
end Ox
namespace Ox
open PySem PySem.Spec PyProof.Rows L2
theorem same_made {H H1 H' : Hp} {x dx C : Addr} (s : L2.Same H H1) (nx : H1 x = none) (nd : H1 dx = none) (k : ∀ b o, (upd (upd H1 dx (.own x)) x (.ins C dx [])) b = some o → b ≠ x → H' b = some o) : L2.Same H H' := fun b o e => by
  have e1 := s b o e
  exact k b o (by rw [upd_ne (ne_of_none e1 nx), upd_ne (ne_of_none e1 nd)]; exact e1) (ne_of_none e1 nx)
end Ox

/-! Own layer, fourth part: enumerate(row), the row a list or a tuple. -/
namespace Ox
open PySem PySem.Spec PyProof.Rows L2
theorem meets_enum1 {v : Value} {o : Obj} {Hh : Heap → Prop} (B : Begins v o Hh) :
    Meets (Builtin.«enumerate.__new__» ⟨[.type "enumerate", v], []⟩) (fun _ R s => Hh s.heap ∧
      R (.ok (.ret (.ref (s.heap.push o).objs.size))) { s with heap := (s.heap.push o).push { cls := .type "enumerate", data := .fields #[.none, .bool false, .ref s.heap.objs.size, rawInt 0, .none, .none] } }) :=
  .of_wp fun prog w A R s h => by
    obtain ⟨hp, gs, dr, tk, os⟩ := s
    obtain ⟨h1, h2⟩ := h
    have hsub := sub_enumerate
    have q1 : ∀ {A' : Around} {E : Value → Shared → Prop} {Q : Value → Shared → Prop}, Q (.ref hp.objs.size) ⟨hp.push o, gs, dr, tk, os⟩ → wpAny (model prog w) A' (pyIter v) Q E ⟨hp, gs, dr, tk, os⟩ := fun q => B.iter prog w _ _ ⟨hp, gs, dr, tk, os⟩ _ h1 q
    wp_walk using q1
    refine wpAny_stack_any fun st => wpAny_pure ?_
    split
    · rename_i c _ _ _ _ _
      cases (c == Value.type "enumerate") <;> (wp_walk using q1; exact ⟨_, rfl, h2⟩)
    · wp_walk using q1; exact ⟨_, rfl, h2⟩
section
variable {prog : Program} {w : World} {A : Around} {E : Value → Shared → Prop} {s : Shared}
theorem enum1_begins {v : Value} {o : Obj} {Hh : Heap → Prop} {Q : Value → Shared → Prop} (B : Begins v o Hh) (h1 : Hh s.heap)
    (h : ∀ h', IsEnum h' (s.heap.objs.size + 1) s.heap.objs.size 0 .none → h'.get? s.heap.objs.size = some o → h'.objs.size = s.heap.objs.size + 2 → (∀ b o, s.heap.get? b = some o → h'.get? b = some o) → Q (.ref (s.heap.objs.size + 1)) { s with heap := h' }) :
    wpAny (model prog w) A (call (.type "enumerate") [v]) Q E s := by
  refine callType_new F.called_enumerate (by decide) (F.typeCall_enumerate_1 _) (F.newCall_enumerate_1 _) (fun obj => F.args_object_init_2 obj _) F.entry_enumerate_new (meets_enum1 B) ⟨h1, ?_⟩
  have hz : (s.heap.push o).objs.size = s.heap.objs.size + 1 := Heap.size_push ..
  show _ ∧ _
  rw [hz]
  have he : IsEnum ((s.heap.push o).push { cls := .type "enumerate", data := .fields #[.none, .bool false, .ref s.heap.objs.size, rawInt 0, .none, .none] }) (s.heap.objs.size + 1) s.heap.objs.size 0 .none := by
    have e := Heap.get?_push_size (s.heap.push o) (o := { cls := .type "enumerate", data := .fields #[.none, .bool false, .ref s.heap.objs.size, rawInt 0, .none, .none] }) rfl
    rw [hz] at e; exact e
  refine ⟨⟨_, he, rfl⟩, h _ he (Heap.get?_push_of_some _ (Heap.get?_push_size _ B.free)) (by rw [Heap.size_push, hz]) ?_⟩
  exact fun b ob x => Heap.get?_push_of_some _ (Heap.get?_push_of_some _ x)
end
/-- the tuple at a as it stands at each turn, each item in a new pair -/
def IteT (K : PySem.W.Frag) (a : Addr) : It :=
  ⟨fun i H => ∃ (xs : List V) (x : V), SqT K H a xs ∧ xs[i]? = some x, fun i H v H' => ∃ T x, v = .ref T ∧ H T = none ∧ H' = upd H T (.tup [.int (i : Nat), x]) ∧ ∀ xs, SqT K H a xs → xs[i]? = some x, fun i H => ∃ xs : List V, SqT K H a xs ∧ xs.length = i⟩
theorem turn_enumT {P : Program} {w : World} {K : PySem.W.Frag} {elts : List Expr} {kk : Nat} {tpos : Pos} (a e it : Addr) :
    Turn P w K (.Tuple elts kk tpos) (IteT K a) [e, it] e (fun i h => (∃ old, IsEnum h e it ((i : Nat) : Int) old) ∧ h.IsTupleIter it a i ∧ e ≠ it) where
  mem := by simp
  obj := fun i h st b hb => by
    obtain ⟨⟨old, he⟩, ⟨o, ho, hc, hd⟩, _⟩ := st
    rcases (show b = e ∨ b = it by simpa using hb) with z | z <;> rw [z]
    · exact ⟨_, he, fun v q => nomatch q⟩
    · exact ⟨o, ho, fun v q => by rw [hd] at q; cases q⟩
  keep := fun i h h' st k => ⟨st.1.imp fun old he => k e (by simp) _ he, st.2.1.at fun o q => k it (by simp) o q, st.2.2⟩
  item := by
    intro X hP hw hK hc i pins s σ H E I hf st hg; subst hP hw hK
    obtain ⟨⟨old, he⟩, hit, hne⟩ := st; obtain ⟨xs, x, hq, hx⟩ := hg
    obtain ⟨its, rv, p, hz⟩ := I.tuple hq
    have hT0 : s.heap.IsTuple a its.toArray := p
    obtain ⟨u, hu, ru⟩ := rv.get hx
    have hel : e < s.heap.objs.size := Heap.lt_size he
    have hil : it < s.heap.objs.size := by obtain ⟨_, q, _⟩ := hit; exact Heap.lt_size q
    have hai : a ≠ it := fun z => by
      obtain ⟨o1, q1, c1, _⟩ := hit; obtain ⟨o2, q2, c2, _⟩ := hT0
      rw [z, q1] at q2; cases q2; rw [c1] at c2; injection c2 with c3; exact absurd c3 (by decide)
    have hea : e ≠ a := fun z => by
      obtain ⟨o2, q2, c2, _⟩ := hT0
      rw [← z, show s.heap.get? e = _ from he] at q2; cases q2; injection c2 with c3; exact absurd c3 (by decide)
    have hh : X.A.in1.handled = none := I.ok.hd hc
    have hlt : i < its.toArray.size := by
      have := (List.getElem?_eq_some_iff.mp hu).1
      simpa using this
    refine wpAny_pyNext_enum_itemD (Draws.tuple hh it a hai its.toArray) he ⟨hit, hT0⟩ hlt hne (by simp [hne, hea]) fun y h' tk hy ho hst' hT hsz hk => ?_
    have ey : y = u := by
      have e1 : its.toArray[i]? = some u := by simpa using hu
      rw [e1] at hy
      exact (Option.some.inj hy).symm
    subst ey
    refine ⟨_, rfl, wpAny_letOwnedTupleGo_enum (s := { s with heap := h', toks := tk + 1 }) ho fun h'' he' sb => ?_⟩
    have hT2 : h''.get? s.heap.objs.size = some { cls := .type "tuple", data := .seq #[.int i tk, y] } := (sb.2 _ (Nat.ne_of_gt hel)).trans hT
    have new : ObjOk X.prog X.w (upd H s.heap.objs.size (.tup [.int (i : Nat), x])) h'' s.heap.objs.size (.tup [.int (i : Nat), x]) := ⟨by show 2 ≤ sizeLine; decide, [.int i tk, y], .cons ⟨_, rfl⟩ (.cons ru .nil), ⟨_, hT2, rfl, _, rfl⟩⟩
    have I1 : Inv X pins σ (upd H s.heap.objs.size (.tup [.int (i : Nat), x])) { s with heap := h'', toks := tk + 1 } :=
      I.turnedNew (ch := [e, it]) (fun b ob hb q => (sb.2 b (fun z => hb (by rw [z]; simp))).trans (hk b ob (fun z => hb (by rw [z]; simp)) (fun z => hb (by rw [z]; simp)) q)) hf (Nat.le_refl _) new
    refine ⟨.ref s.heap.objs.size, _, I1, rfl, ⟨_, x, rfl, I.hok.fresh (Nat.le_refl _), rfl, fun ys hy => by rw [I.tuple_inj hy hq]; exact hx⟩, ⟨⟨y, ?_⟩, hst'.1.at fun o q => (sb.2 it (Ne.symm hne)).trans q, hne⟩, fun b hb => ?_⟩
    · rw [show ((i + 1 : Nat) : Int) = (i : Int) + 1 by omega]; exact he'
    · have hb' : b < s.heap.objs.size := by rcases (show b = e ∨ b = it by simpa using hb) with z | z <;> (rw [z]; assumption)
      rw [upd_ne (Nat.ne_of_lt hb')]; exact (hf b hb).1
  done := by
    intro X hP hw hK hc i pins s σ H E I hf st hg; subst hP hw hK
    obtain ⟨⟨old, he⟩, hit, hne⟩ := st; obtain ⟨xs, hq, hx⟩ := hg
    obtain ⟨its, rv, p, hz⟩ := I.tuple hq
    have hT0 : s.heap.IsTuple a its.toArray := p
    obtain ⟨f0, f1, f2, f3, f4, f5⟩ := hf it (by simp)
    have hai : a ≠ it := fun z => by
      obtain ⟨o1, q1, c1, _⟩ := hit; obtain ⟨o2, q2, c2, _⟩ := hT0
      rw [z, q1] at q2; cases q2; rw [c1] at c2; injection c2 with c3; exact absurd c3 (by decide)
    have hh : X.A.in1.handled = none := I.ok.hd hc
    have hl := rv.length
    have hea : e ≠ a := fun z => by
      obtain ⟨o2, q2, c2, _⟩ := hT0
      rw [← z, show s.heap.get? e = _ from he] at q2; cases q2; injection c2 with c3; exact absurd c3 (by decide)
    have hn : its.toArray.size = i := by simp; omega
    subst hn
    exact wpAny_pyNext_enum_endD (Draws.tuple hh it a hai its.toArray) he ⟨hit, hT0⟩ fun h' eb => ⟨rfl, I.turned (t' := s.toks) (fun b o hb q => eb b o hb q) f0 f1 f3 f4 f5⟩
  self := fun A i s Q E st h => st.1.elim fun old he => wpAny_pyIter_enum he h
def iEnumT (K : PySem.W.Frag) (ta : TA) : TI := fun σ H R => ta σ H fun vs H1 => ∃ a xs, vs = [.ref a] ∧ ((SqL K H1 a xs ∧ R (Ite K a) H1) ∨ (SqT K H1 a xs ∧ R (IteT K a) H1))
theorem pi_enumT {X : Cx} {e : Expr} {ta : TA} {p pos tpos : Pos} {elts : List Expr} {kk : Nat} (hg : Gl X "enumerate") (hm : X.mg "enumerate" = none) (ha : PA X [e] ta) (hs : starEach [e] X.env = [(false, eval e X.env)] := by rfl) :
    PI X (.Tuple elts kk tpos) (.Call (.Name "enumerate" p) [e] [] pos) (iEnumT X.K ta) := by
  constructor; intro pins s σ H R I h
  refine Call_ (ld_blt I hg hm boot_enumerate (PyProof.Rows.callWith_type1 (thn (ha.run pos pins s σ H _ I h) fun us s1 ⟨vs, H1, I1, r1, q1⟩ => ?_) hs rfl))
  obtain ⟨a, xs, ex, hq⟩ := q1; subst ex
  obtain ⟨u, rfl, ru⟩ := vals1 r1
  cases ru
  have fresh : ∀ b, b = s1.heap.objs.size + 1 ∨ b = s1.heap.objs.size → FpOk X pins H1 b := fun b hb => by
    have hle : s1.heap.objs.size ≤ b := by rcases hb with z | z <;> rw [z] <;> omega
    exact I1.fpOk hle (I1.hok.fresh hle)
  rcases hq with ⟨hq, q⟩ | ⟨hq, q⟩
  · obtain ⟨its, rv, p', hz⟩ := I1.list hq
    refine call_enumerate_list p'.isList fun h' he hit hsz hk => wpAny_pyIter_enum he ⟨s1.heap.objs.size + 1, [s1.heap.objs.size + 1, s1.heap.objs.size], _, _, H1, rfl, I1.kept (t' := s1.toks) hk, turn_enum a (s1.heap.objs.size + 1) s1.heap.objs.size, ⟨⟨.none, he⟩, hit, Nat.succ_ne_self _⟩, fun b hb => fresh b (by simpa using hb), q⟩
  · obtain ⟨its, rv, p', hz⟩ := I1.tuple hq
    refine enum1_begins (begins_tuple a its.toArray) p' fun h' he hit hsz hk => wpAny_pyIter_enum he ⟨s1.heap.objs.size + 1, [s1.heap.objs.size + 1, s1.heap.objs.size], _, _, H1, rfl, I1.kept (t' := s1.toks) hk, turn_enumT a (s1.heap.objs.size + 1) s1.heap.objs.size, ⟨⟨.none, he⟩, ⟨_, hit, rfl, rfl⟩, Nat.succ_ne_self _⟩, fun b hb => fresh b (by simpa using hb), q⟩
/-! ### the loop over it -/
def LpE (K : PySem.W.Frag) (g : TG) (tb : TS) (D : Ends) (σ : L2.St) (vs : List V) (H : Hp) : Prop := ∃ a xs, vs = [.ref a] ∧ ((SqL K H a xs ∧ Lp (Ite K a) g tb D σ H) ∨ (SqT K H a xs ∧ Lp (IteT K a) g tb D σ H))
section
variable {σ : L2.St} {H : Hp} {n : L2.St → Hp → Prop} {r : VK} {b c : L2.St → Hp → Prop} {tb : TS} {g : TG} {K : PySem.W.Frag} {al : TA} {p : Addr}
theorem x_forE (h : al σ H fun x H1 => LpE K g tb ⟨n, r, b, c⟩ σ x H1) : tFor (iEnumT K al) g tb ⟨n, r, b, c⟩ σ H := h
/-- a list or a tuple -/
def SqR (K : PySem.W.Frag) (H : Hp) (a : Addr) (xs : List V) : Prop := SqL K H a xs ∨ SqT K H a xs
theorem lpE {xs : List V} (Pv : Nat → L2.St → Hp → Prop) (h : (∀ σ' H' i, i ≤ xs.length → Pv i σ' H' → SqL K H' p xs) ∨ (∀ σ' H' i, i ≤ xs.length → Pv i σ' H' → SqT K H' p xs)) (h0 : Pv 0 σ H)
    (hs : ∀ i x σ H T, xs[i]? = some x → Pv i σ H → H T = none → g (.ref T) σ (upd H T (.tup [.int (i : Nat), x])) fun σ2 H2 => tb ⟨Pv (i + 1), r, n, Pv (i + 1)⟩ σ2 H2) (hd : ∀ σ H, Pv xs.length σ H → n σ H) : LpE K g tb ⟨n, r, b, c⟩ σ [.ref p] H := by
  rcases h with h | h
  · refine ⟨p, xs, rfl, .inl ⟨h σ H 0 (Nat.zero_le _) h0, fun i k σ H => k = xs.length - i ∧ i ≤ xs.length ∧ Pv i σ H, ⟨_, rfl, Nat.zero_le _, h0⟩, ?_⟩⟩
    rintro i k σ1 H1 ⟨rfl, hi, hp⟩
    have q := h σ1 H1 i hi hp
    by_cases hlt : i < xs.length
    · refine .inr ⟨⟨xs, xs[i], q, by simp [hlt]⟩, Pv (i + 1), fun σ' H' p' => ⟨xs.length - (i + 1), by omega, rfl, hlt, p'⟩, fun x H' y => ?_⟩
      obtain ⟨T, v, rfl, hT, rfl, hv⟩ := y
      exact hs i v σ1 H1 T (hv xs q) hp hT
    · have e : i = xs.length := by omega
      subst e
      exact .inl ⟨⟨xs, q, Nat.le_refl _⟩, hd σ1 H1 hp⟩
  · refine ⟨p, xs, rfl, .inr ⟨h σ H 0 (Nat.zero_le _) h0, fun i k σ H => k = xs.length - i ∧ i ≤ xs.length ∧ Pv i σ H, ⟨_, rfl, Nat.zero_le _, h0⟩, ?_⟩⟩
    rintro i k σ1 H1 ⟨rfl, hi, hp⟩
    have q := h σ1 H1 i hi hp
    by_cases hlt : i < xs.length
    · refine .inr ⟨⟨xs, xs[i], q, by simp [hlt]⟩, Pv (i + 1), fun σ' H' p' => ⟨xs.length - (i + 1), by omega, rfl, hlt, p'⟩, fun x H' y => ?_⟩
      obtain ⟨T, v, rfl, hT2, rfl, hv⟩ := y
      exact hs i v σ1 H1 T (hv xs q) hp hT2
    · have e : i = xs.length := by omega
      subst e
      exact .inl ⟨⟨xs, q, rfl⟩, hd σ1 H1 hp⟩
end
end Ox
namespace Ox
open PySem PySem.Spec PyProof.Rows L2
/-! ### methods -/
section
variable {X : Cx} {k : Nat} {C : Addr} {m : Str} {ps : List Str} {sp : Sp} {o e : Expr} {es : List Expr} {ta : TE} {t : TA} {apos pos : Pos} {pl : Sem Bool}
theorem pe_mt (M : Met X.prog X.w X.K X.mg X.base C k m ps sp) (kc : Cls X.K C) (hr : Room k X.A) (he : PE X o ta) (ha : PA X (e :: es) t)
    (hst : starEach (e :: es) X.env = (false, eval e X.env) :: starEach es X.env := by rfl) (hpl : (backTo pos (starEach es X.env)).any (·.1) = false := by rfl)
    (ht : eval (.Call (.Attribute o m apos) (e :: es) [] pos) X.env = (do let ov ← eval o X.env; standAt apos.atName; let (f, first) ← holding [ov] (getMethod ov m pl); callWith pos f first (backTo pos (starEach (e :: es) X.env)) (backToKw pos (keywordEach [] X.env))) := by rfl) :
    PE X (.Call (.Attribute o m apos) (e :: es) [] pos) (tMeth C m sp [] E0 ta t) := by
  obtain ⟨f, fd, mt, F, hb⟩ := M.ex
  exact pe_meth he kc mt F hr hb .nil pass0 ha hst hpl ht
end
def rMtA (C : Addr) (m : Str) (x : V) (H : Hp) (Z : Prop) : Prop := ∃ a dx fs, x = .ref a ∧ H a = some (.ins C dx fs) ∧ fs.lookup m = none ∧ Z
section
variable {σ : L2.St} {H : Hp} {Q : VK} {ta : TE} {al : TA} {C : Addr} {m : Str} {sp : Sp} {K : PySem.W.Frag}
theorem x_mt (h : ta σ H fun x H1 => rMtA C m x H1 (al σ H1 fun vs H2 => sp (x :: vs) H2 Q E0)) : tMeth C m sp [] E0 ta al σ H Q := by
  show ta σ H fun x H1 => ∃ a dx fs, x = .ref a ∧ H1 a = some (.ins C dx fs) ∧ fs.lookup m = none ∧ al σ H1 fun vs H2 => sp (x :: (vs ++ [])) H2 Q E0
  have e : (fun (x : V) (H1 : Hp) => ∃ a dx fs, x = .ref a ∧ H1 a = some (.ins C dx fs) ∧ fs.lookup m = none ∧ al σ H1 fun vs H2 => sp (x :: (vs ++ [])) H2 Q E0) = fun x H1 => rMtA C m x H1 (al σ H1 fun vs H2 => sp (x :: vs) H2 Q E0) := by
    funext x H1
    have e2 : (fun (vs : List V) (H2 : Hp) => sp (x :: (vs ++ [])) H2 Q E0) = fun vs H2 => sp (x :: vs) H2 Q E0 := by
      funext vs H2
      rw [List.append_nil]
    rw [e2]
    rfl
  rw [e]
  exact h
theorem x_mti {a dx : Addr} {fs : List (Str × V)} {Z : Prop} (h : H a = some (.ins C dx fs)) (hl : fs.lookup m = none) (q : Z) : rMtA C m (.ref a) H Z := ⟨a, dx, fs, rfl, h, hl, q⟩
/-! ### isinstance(x, (list, tuple)) -/
theorem x_isiLT {x : V} {k : Kn} {tp : Addr} (h : Kd K H x k) (ht : H tp = some (.tup [.ty "list", .ty "tuple"])) (q : Q (.bl (isB k .lst || isB k .tup)) H) : rIsiT K [x, .ref tp] H Q := by
  refine ⟨x, tp, _, _, _, _, rfl, ht, .cons (.ty "list") (.cons (.ty "tuple") .nil), h.tyx, ?_, q⟩
  cases k <;> rfl
end
/-! ### x[i], x a list or a tuple -/
def rIxQ (K : PySem.W.Frag) : R2 := fun x y H Q => rIxL K x y H Q ∨ rIxT K x y H Q
theorem ix_seq {X : Cx} : IxR X (rIxQ X.K) := fun a b pins s σ H x y v u Q I rx ry h hs => h.elim (fun h => ix_list a b pins s σ H x y v u Q I rx ry h hs) fun h => ix_tup a b pins s σ H x y v u Q I rx ry h hs
theorem ix_seqK {X : Cx} {K : PySem.W.Frag} (e : X.K = K := by rfl) : IxR X (rIxQ K) := e ▸ ix_seq
theorem x_ixq {K : PySem.W.Frag} {H : Hp} {Q : VK} {p : Addr} {xs : List V} {k : Int} {v : V} (j : Nat) (h : SqR K H p xs) (hk : k = (j : Int)) (ha : xs[j]? = some v) (q : Q v H) : rIxQ K (.ref p) (.int k) H Q :=
  h.elim (fun h => .inl (x_ixl j h hk ha q)) fun h => .inr (x_ixt j h hk ha q)
theorem x_lenQ {K : PySem.W.Frag} {H : Hp} {Q : VK} {p : Addr} {xs : List V} (h : SqR K H p xs) (q : Q (.int xs.length) H) : rLenA K [V.ref p] H Q := h.elim (fun h => x_lenL h q) fun h => x_lenT h q
theorem x_listQ {K : PySem.W.Frag} {H : Hp} {Q : VK} {p : Addr} {xs : List V} (h : SqR K H p xs) (q : ∀ l, H l = none → Q (.ref l) (upd H l (.lst xs))) : rListA K [V.ref p] H Q := h.elim (fun h => x_listL h q) fun h => x_listT h q
end Ox

namespace Ox
open PySem PySem.Spec PyProof.Rows L2
/-! sorted(d, reverse=True), d a dict with text keys: a permutation of its keys -/
def codesOf : Value → List Nat
  | .str z _ => z.cps.toList
  | _ => []
def textOf : Value → Str
  | .str z _ => z
  | _ => ""
def ltCodes (v u : Value) : Bool := decide (codesOf v < codesOf u)
theorem swo_codes : SrtO.Swo ltCodes := by
  refine ⟨fun x y h => ?_, fun x y z h1 h2 => ?_⟩
  · exact decide_eq_false (List.lt_asymm (of_decide_eq_true (p := codesOf x < codesOf y) h))
  · have a := of_decide_eq_false (p := codesOf y < codesOf x) h1
    have b := of_decide_eq_false (p := codesOf z < codesOf y) h2
    exact decide_eq_false (p := codesOf z < codesOf x) (List.not_lt.mpr (List.le_trans (List.not_lt.mp a) (List.not_lt.mp b)))
theorem texts_in : ∀ {vs : List Value} {ks : List Str}, StrsAre vs ks → ∀ v ∈ vs, ∃ z t, v = Value.str z t := by
  intro vs ks h
  induction h with
  | nil => exact fun v hv => by cases hv
  | cons z t _ ih =>
    intro v hv
    rcases List.mem_cons.mp hv with rfl | hv
    · exact ⟨z, t, rfl⟩
    · exact ih v hv
theorem texts_of : ∀ {vs : List Value} {ks : List Str}, StrsAre vs ks → vs.map textOf = ks := by
  intro vs ks h
  induction h with
  | nil => rfl
  | cons z t _ ih =>
    rw [List.map_cons, ih]
    rfl
theorem texts_are : ∀ {vs : List Value}, (∀ v ∈ vs, ∃ z t, v = Value.str z t) → StrsAre vs (vs.map textOf) := by
  intro vs
  induction vs with
  | nil => exact fun _ => .nil
  | cons v r ih =>
    intro h
    obtain ⟨z, t, rfl⟩ := h v List.mem_cons_self
    exact .cons z t (ih fun u hu => h u (List.mem_cons_of_mem _ hu))
theorem texts_sortable {prog : Program} {w : World} {A : Around} {s : Shared} {a : Addr} {vs : List Value} {ks : List Str} (hT : StrsAre vs ks) (h2 : 2 ≤ vs.length) : SrtO.SortableO prog w A s a vs ltCodes := by
  intro h1 _
  refine ⟨oneType', fun Q E hq => ?_, fun p q hp hq => ?_⟩
  · obtain ⟨v1, v2, rest, rfl⟩ : ∃ v1 v2 rest, vs = v1 :: v2 :: rest := by
      cases vs with
      | nil => simp at h2
      | cons v1 r =>
        cases r with
        | nil => simp at h2
        | cons v2 r => exact ⟨v1, v2, r, rfl⟩
    rw [keyKind_strs hT]
    exact wpAny_pure hq
  · obtain ⟨x, t, ex⟩ := texts_in hT _ hp
    obtain ⟨y, u, ey⟩ := texts_in hT _ hq
    change wpAny (model prog w) A (keyLt' oneType' p.1 q.1) (fun r s1 => s1 = _ ∧ r = ltCodes p.1 q.1) (fun _ _ => False) _
    rw [ex, ey, keyLt'_oneType]
    exact oneLt_str ⟨rfl, rfl⟩
def rSortRev : List V → List V → Hp → VK → Prop := fun xs zs H Q => ∃ (d : Addr) (kvs : List (Key × V)) (ks : List Str), xs = [.ref d] ∧ zs = [.bl true] ∧ Rd H d (.dK kvs) ∧ kvs.map (·.1) = ks.map Sum.inr ∧ ks.length ≤ 10000 ∧
  ∀ (ys : List Str) (p : Addr), ys.Perm ks → H p = none → Q (.ref p) (upd H p (.lst (ys.map V.str)))
theorem call_sortRev {X : Cx} (calm : X.calm = true) : CallRK X (.builtin "sorted") [Str.ofString "reverse"] rSortRev := by
  intro pn st σ H args kws us ws Q I ra rk hq
  obtain ⟨d, kvs, ks, rfl, rfl, rd, ek, len, fin⟩ := hq
  obtain ⟨ud, rfl, rud⟩ := vals1 ra
  cases rud
  obtain ⟨w1, rfl, e1⟩ := vals1 rk
  obtain rfl : w1 = Value.bool true := e1
  obtain ⟨_, low, rows, rowsR, isd⟩ := dk_rd I.hok rd
  obtain ⟨epoch, atd⟩ := isd.dictAt
  have keyE : rows.map Prod.fst = ks.map Sum.inr := Eq.trans rowsR.keys.symm ek
  have lenE : rows.length = ks.length := by
    have t := congrArg List.length keyE
    simpa using t
  have line : ks.length ≤ sizeLine := by rw [sizeLine_eq]; omega
  refine call_function_entry_kw kind_sorted plain_sorted entry_sorted (args_sorted_rev _ _) ?_
  unfold Builtin.«sorted»
  refine wpAny_bind (m := checkCount "sorted" 1 1 _) (wpAny_pure (wpAny_bind (PySem.W.kdu_collect (A := X.A.in1) (PySem.W.kdl_dict (knd := mixKind X.prog X.w) (kvs := rows) (ep := epoch) low) (I.ok.hd calm) atd (by rw [lenE]; exact line) fun h1 t1 got keep isgot => ?_)))
  have gotL : got.toList.length = ks.length := (Array.length_toList ..).trans (isgot.1.trans lenE)
  have texts : StrsAre got.toList ks := strs_at gotL fun j v ev => by
    obtain ⟨key, _, er, ki⟩ := isgot.2 j v (by rw [← Array.getElem?_toList]; exact ev)
    have ekj : (ks.map Sum.inr)[j]? = some key := by rw [← keyE, List.getElem?_map, er]; rfl
    rw [List.getElem?_map] at ekj
    cases ez : ks[j]? with
    | none => rw [ez] at ekj; cases ekj
    | some z =>
      rw [ez] at ekj
      cases ekj
      obtain ⟨t, et⟩ := Value.isStrOf_shape (x := z) (v := v) ki
      exact ⟨z, t, rfl, et⟩
  have J : Inv X pn σ H { st with heap := h1, toks := t1 } := I.kept keep
  refine wpAny_bind (wpAny_newList ?_ (by rw [gotL]; rw [sizeLine_eq] at line; exact line))
  have isl : (h1.push (seqObj "list" got.toList.toArray 0)).get? h1.objs.size = some (seqObj "list" got.toList.toArray 0) := Heap.get?_push_size _ rfl
  change wpAny _ _ _ _ _ { st with heap := h1.push (seqObj "list" got.toList.toArray 0), toks := t1 }
  refine wpAny_bind (wpAny_holding (wpAny_call_entry_kw slot_list_sort ⟨_, isl, rfl⟩ entry_list_sort ?_ (args_list_sort_rev _ _)))
  refine SrtR.list_sort_ordR swo_codes isl (by rw [gotL]; exact line) (fun h2 => texts_sortable texts h2) fun out _ stable => ⟨_, rfl, ?_⟩
  have pm : out.Perm got.toList := stable.perm.trans (List.reverse_perm _)
  have outT : StrsAre out.reverse (out.reverse.map textOf) := texts_are fun v hv => texts_in texts v (pm.mem_iff.mp (List.mem_reverse.mp hv))
  have outP : (out.reverse.map textOf).Perm ks := by
    have t := ((List.reverse_perm out).trans pm).map textOf
    rw [texts_of texts] at t
    exact t
  obtain ⟨ep2, at2⟩ := sortedHeap_at (vs := got.toList) (out := out.toArray.reverse) isl
  have ylen : ((out.reverse.map textOf).map V.str).length ≤ sizeLine := by rw [List.length_map, outP.length_eq]; exact line
  have eo : out.reverse.toArray = out.toArray.reverse := by simp
  have laid := fun kept => J.laid (t' := t1) kept (Nat.le_refl h1.objs.size) (show ObjOk X.prog X.w _ _ _ (.lst ((out.reverse.map textOf).map V.str)) from ⟨ylen, out.reverse, ep2, vals_of_strs outT, by rw [eo]; exact at2⟩)
  refine wpAny_pure ⟨_, rfl, .ref h1.objs.size, _, laid fun b u eb => ?_, rfl, fin _ _ outP (J.hok.fresh (Nat.le_refl _))⟩
  have small := Heap.lt_size eb
  rw [sortedHeap_old (Nat.ne_of_lt small) (by rw [size_push']; exact Nat.lt_succ_of_lt small)]
  exact Heap.get?_push_of_some _ eb
end Ox

/-! Own layer, fifth part: tuple(d), a walk over a list or a tuple, dicts of data compared. -/
namespace Ox
open PySem PySem.Spec PyProof.Rows L2
/-! ### tuple(d) -/
section
variable {prog : Program} {w : World} {A : Around} {s : Shared} {E : Value → Shared → Prop}
theorem code_tuple_new_dict {K : Type} [DecidableEq K] {knd : KeyKind prog w K} {kvs : List (K × Value)} {ep : Nat} {d : Addr} {Q₁ : Value → Shared → Prop} (lo : (d == sysModules) = false) (hh : A.handled = none) (hat : s.heap.DictAt knd d kvs ep) (hn : kvs.length ≤ sizeLine)
    (h : ∀ (h' : Heap) (tk : Nat) (acc : Array Value), (∀ b o, s.heap.get? b = some o → h'.get? b = some o) → ItemsOf (fun i v => ∃ k x, kvs[i]? = some (k, x) ∧ knd.is k v = true) acc kvs.length →
      Q₁ (.ref h'.objs.size) { s with heap := h'.push { cls := .type "tuple", data := .seq acc }, toks := tk }) :
    codeAny (model prog w) A (.call (.builtin "tuple.__new__") ⟨[.type "tuple", .ref d], []⟩) (wants Q₁ E) s := by
  refine codeAny_of_tree ?_
  show wpAny _ A.in1 (do checkBuiltinCall "tuple.__new__" ⟨[.type "tuple", .ref d], []⟩; again (.builtin "tuple.__new__" ⟨[.type "tuple", .ref d], []⟩)) _ _ s
  refine wpAny_bind (wpAny_of_eq (F.newCall_tuple_1 _) (wpAny_pure ⟨plainId_quiet F.plain_tuple_new _, codeAny_builtin F.entry_tuple_new ?_⟩))
  rw [Around.under_plainId F.plain_tuple_new _]
  have hsub := sub_tuple_self
  have hinit := init_tuple_lookup
  have hmh := madeHere_tuple
  have hTI : s.TypeIs (.ref d) "dict" := hat.dictOf.typeIs
  have hh1 : A.in1.handled = none := hh
  wp_walk using wpAny_typeOf hTI, PySem.W.kdu_collect (A := A.in1) (PySem.W.kdl_dict (knd := knd) (kvs := kvs) (ep := ep) lo) hh1 hat hn
  intro h' tk acc hk hacc
  show wpAny _ _ (Builtin.Tuple.tupleExact acc.toList.toArray >>= fun v => ret v) _ _ _
  unfold Builtin.Tuple.tupleExact
  refine wpAny_bind (wpAny_newObj_type ?_ (by show acc.toList.toArray.size ≤ sizeLine; simp only [Array.toArray_toList]; rw [hacc.1]; exact hn))
  refine wpAny_pure ?_
  have e : acc.toList.toArray = acc := by simp
  rw [e]
  exact h h' tk acc hk hacc
theorem call_tuple_dict {K : Type} [DecidableEq K] {knd : KeyKind prog w K} {kvs : List (K × Value)} {ep : Nat} {d : Addr} {Q : Value → Shared → Prop} (lo : (d == sysModules) = false) (hh : A.handled = none) (hat : s.heap.DictAt knd d kvs ep) (hn : kvs.length ≤ sizeLine)
    (hQ : ∀ (h' : Heap) (tk : Nat) (acc : Array Value), (∀ b o, s.heap.get? b = some o → h'.get? b = some o) → ItemsOf (fun i v => ∃ k x, kvs[i]? = some (k, x) ∧ knd.is k v = true) acc kvs.length →
      Q (.ref h'.objs.size) { s with heap := h'.push { cls := .type "tuple", data := .seq acc }, toks := tk }) :
    wpAny (model prog w) A (call (.type "tuple") [.ref d]) Q E s := by
  refine callType_codes (Q₁ := fun obj s₁ => s₁.TypeIs obj "tuple" ∧ Q obj s₁) F.called_tuple (F.typeCall_tuple_1 _) F.entry_object_init
    (code_tuple_new_dict (A := A.in1) lo hh hat hn fun h' tk acc hk hacc => ⟨⟨_, Heap.get?_push_size _ rfl, rfl⟩, hQ h' tk acc hk hacc⟩) fun obj s₁ h₁ => ?_
  exact ⟨h₁.1, F.args_object_init_2 obj _, object_init_meets F.called_tuple.init.lookup F.called_tuple.made (by decide) prog w A.in1 _ s₁ ⟨h₁.1, rfl, h₁.2⟩⟩
end
def rTupD : List V → Hp → VK → Prop := fun xs H Q => ∃ p kvs, xs = [.ref p] ∧ Rd H p (.dK kvs) ∧ ∀ q, H q = none → Q (.ref q) (upd H q (.tup (kvs.map fun kv => kV kv.1)))
theorem call_tupD {X : Cx} (hc : X.calm = true) : CallR X (.type "tuple") rTupD := by
  intro pins s σ H xs us Q I r h
  obtain ⟨p, kvs, e, hk, q⟩ := h
  subst e
  obtain ⟨u, eu, rx⟩ := vals1 r
  subst eu
  obtain rfl : u = Value.ref p := rx
  obtain ⟨z, lo, vs, rk, hd⟩ := dk_rd I.hok hk
  obtain ⟨ep, hat⟩ := hd.dictAt
  have hl : kvs.length = vs.length := Paired.length rk
  have hz : vs.length ≤ sizeLine := by rw [← hl]; exact z
  refine call_tuple_dict (knd := mixKind X.prog X.w) lo (I.ok.hd hc) hat hz fun h' tk acc hkeep hacc => ?_
  have I2 : Inv X pins σ H { s with heap := h', toks := tk } := I.kept hkeep
  refine ⟨.ref h'.objs.size, upd H h'.objs.size (.tup (kvs.map fun kv => kV kv.1)), ?_, rfl, q _ (I2.hok.fresh (Nat.le_refl _))⟩
  refine I2.laid (t' := tk) (fun b o e => Heap.get?_push_of_some _ e) (Nat.le_refl _) (show ObjOk X.prog X.w _ _ _ (.tup (kvs.map fun kv => kV kv.1)) from ?_)
  refine ⟨?_, acc.toList, ?_, ?_⟩
  · rw [List.length_map, hl]; exact hz
  · have el : acc.toList.length = acc.size := by simp
    refine vals_of_at (by rw [List.length_map, el, hacc.1, hl]) fun j x w h1 h2 => ?_
    obtain ⟨k, y, hky, hi⟩ := hacc.2 j w (by rw [← Array.getElem?_toList]; exact h2)
    have e1 : (kvs.map (·.1))[j]? = some k := by
      rw [KV.keys rk, List.getElem?_map, hky] <;> rfl
    have e2 : (kvs.map fun kv => kV kv.1)[j]? = some (kV k) := by
      have e3 : (kvs.map fun kv => kV kv.1) = (kvs.map (·.1)).map kV := by rw [List.map_map] <;> rfl
      rw [e3, List.getElem?_map, e1] <;> rfl
    rw [e2] at h1
    cases h1
    exact keyIs_rel hi
  · exact ⟨_, Heap.get?_push_size _ rfl, rfl, by simp⟩
end Ox
namespace Ox
open PySem PySem.Spec PyProof.Rows L2
/-! ### a list or a tuple, walked -/
def iSeq (K : PySem.W.Frag) (te : TE) : TI := fun σ H R => te σ H fun x H1 => ∃ a, x = .ref a ∧ (((∃ xs, SqL K H1 a xs) ∧ R (Itl K a) H1) ∨ ((∃ xs, SqT K H1 a xs) ∧ R (Itt K a) H1))
theorem pi_seq {X : Cx} {tg l : Expr} {tl : TE} (hl : PE X l tl) : PI X tg l (iSeq X.K tl) := by
  refine ⟨fun pins s σ H R I h => ?_⟩
  refine thn (hl.run pins s σ H _ I h) fun v s1 ⟨x, H1, I1, r1, q1⟩ => ?_
  obtain ⟨a, e, ⟨⟨xs, hq⟩, q⟩ | ⟨⟨xs, hq⟩, q⟩⟩ := q1
  · subst e
    cases r1
    obtain ⟨its, rv, p, hz⟩ := I1.list hq
    refine wpAny_pyIter_list p.isList ?_
    refine ⟨s1.heap.objs.size, [s1.heap.objs.size], _, _, H1, rfl, I1.kept (t' := s1.toks) fun b o e => Heap.get?_push_of_some _ e, turn_list a _, ⟨_, Heap.get?_push_size _ rfl, rfl, rfl⟩, fun b hb => ?_, q⟩
    have e : b = s1.heap.objs.size := by simpa using hb
    subst e
    exact I1.fpOk (Nat.le_refl _) (I1.hok.fresh (Nat.le_refl _))
  · subst e
    cases r1
    obtain ⟨its, rv, p, hz⟩ := I1.tuple hq
    refine wpAny_pyIter_tuple (show s1.heap.IsTuple a its.toArray from p) ?_
    refine ⟨s1.heap.objs.size, [s1.heap.objs.size], _, _, H1, rfl, I1.kept (t' := s1.toks) fun b o e => Heap.get?_push_of_some _ e, turn_tuple a _, ⟨_, Heap.get?_push_size _ rfl, rfl, rfl⟩, fun b hb => ?_, q⟩
    have e : b = s1.heap.objs.size := by simpa using hb
    subst e
    exact I1.fpOk (Nat.le_refl _) (I1.hok.fresh (Nat.le_refl _))
def RunSq (K : PySem.W.Frag) (R : It → Hp → Prop) (x : V) (H : Hp) : Prop := ∃ a, x = .ref a ∧ (((∃ xs, SqL K H a xs) ∧ R (Itl K a) H) ∨ ((∃ xs, SqT K H a xs) ∧ R (Itt K a) H))
section
variable {σ : L2.St} {H : Hp} {te : TE} {R : It → Hp → Prop} {K : PySem.W.Frag} {n : L2.St → Hp → Prop} {r : VK} {b c : L2.St → Hp → Prop} {tb : TS} {g : TG} {p : Addr}
theorem x_iSq (h : te σ H fun x H1 => RunSq K R x H1) : iSeq K te σ H R := h
def LpSq (K : PySem.W.Frag) (g : TG) (tb : TS) (D : Ends) (σ : L2.St) (x : V) (H : Hp) : Prop := RunSq K (fun J H1 => Lp J g tb D σ H1) x H
theorem x_forSq (h : te σ H fun x H1 => LpSq K g tb ⟨n, r, b, c⟩ σ x H1) : tFor (iSeq K te) g tb ⟨n, r, b, c⟩ σ H := h
theorem runSq {xs : List V} (h : SqR K H p xs) (q : ∀ (J : It) (G : Hp → Prop), (∀ H', L2.Same H H' → G H') → L2.Walk J xs.length G (L2.YAt xs) → R J H) : RunSq K R (.ref p) H := by
  rcases h with h | h
  · exact ⟨p, rfl, .inl ⟨⟨xs, h⟩, q _ (fun H' => SqL K H' p xs) (fun H' s => s.seq h) walk_list⟩⟩
  · exact ⟨p, rfl, .inr ⟨⟨xs, h⟩, q _ (fun H' => SqT K H' p xs) (fun H' s => same_t s h) walk_tup⟩⟩
end
end Ox
namespace Ox
open PySem PySem.Spec PyProof.Rows L2
/-! ### dicts compared, their values data -/
def DvAt (K : PySem.W.Frag) (H : Hp) (ks : List (Key × V)) (f : Key → PyData) : Prop := ∀ p ∈ ks, Dp K H p.2 (f p.1) ∧ SeqAt.shaped (f p.1) = true
def eqKB (ks ls : List (Key × V)) (f g : Key → PyData) : Bool := (ks.length == ls.length) && ks.all fun p => (valV ls p.1).isSome && PyData.eqv (f p.1) (g p.1)
def rEqDD (K : PySem.W.Frag) : R2 := fun x y H Q => ∃ a b ks ls f g, x = .ref a ∧ y = .ref b ∧ Rd H a (.dK ks) ∧ Rd H b (.dK ls) ∧ DvAt K H ks f ∧ DvAt K H ls g ∧ Q (.bl (eqKB ks ls f g)) H
def rNeDD (K : PySem.W.Frag) : R2 := fun x y H Q => ∃ a b ks ls f g, x = .ref a ∧ y = .ref b ∧ Rd H a (.dK ks) ∧ Rd H b (.dK ls) ∧ DvAt K H ks f ∧ DvAt K H ls g ∧ Q (.bl (!eqKB ks ls f g)) H
theorem valV_in {kvs : List (Key × V)} {k : Key} {v : V} (h : valV kvs k = some v) : (k, v) ∈ kvs := valV_mem h
theorem hitsD {X : Cx} {pins : List (Addr × Obj)} {σ : L2.St} {H : Hp} {s : Shared} (I : Inv X pins σ H s) {A : Around} (hu : A.units + 64 < cLine) {ls : List (Key × V)} {vb : List (Key × Value)} (rb : KV ls vb) {g f : Key → PyData} (hg : DvAt X.K H ls g) {ks : List (Key × V)} {va : List (Key × Value)} (ra : KV ks va) :
    DvAt X.K H ks f → PySem.W.KeqHits A s vb va (ks.all fun p => (valV ls p.1).isSome && PyData.eqv (f p.1) (g p.1)) := by
  unfold KV at ra
  induction ra with
  | nil => intro _; exact .nil
  | @cons p q ps qs h t ih =>
    intro hp
    obtain ⟨h1, h2⟩ := h
    obtain ⟨k, v⟩ := q
    have h1' : p.1 = k := h1
    have hd := hp p List.mem_cons_self
    cases e : valV ls p.1 with
    | none =>
      have rr : RelO none (valueAt vb p.1) := by rw [← e]; exact rb.val p.1
      have hn : valueAt vb k = none := by
        rw [← h1']
        cases hq : valueAt vb p.1 with
        | none => rfl
        | some y => rw [hq] at rr; exact rr.elim
      have eb : ((p :: ps).all fun p => (valV ls p.1).isSome && PyData.eqv (f p.1) (g p.1)) = false := by
        rw [List.all_cons, e]
        rfl
      rw [eb]
      exact .miss hn
    | some z =>
      have rr : RelO (some z) (valueAt vb p.1) := by rw [← e]; exact rb.val p.1
      obtain ⟨y, hy, ry⟩ := rr.some_of
      rw [h1'] at hy
      have hz := hg (p.1, z) (valV_in e)
      obtain ⟨as, r1⟩ := Dp.reads I (f p.1) p.2 v hd.1 h2
      obtain ⟨bs, r2⟩ := Dp.reads I (g p.1) z y hz.1 ry
      have eb : ((p :: ps).all fun p => (valV ls p.1).isSome && PyData.eqv (f p.1) (g p.1)) = (PyData.eqv (f p.1) (g p.1) && ps.all fun p => (valV ls p.1).isSome && PyData.eqv (f p.1) (g p.1)) := by
        rw [List.all_cons, e]
        rfl
      rw [eb]
      exact .hit hy (SeqAt.eqAt_reads _ _ A s v y as bs r1 r2 (SeqAt.canLay_of_shaped hd.2) (SeqAt.canLay_of_shaped hz.2) (SeqAt.room_of_shaped hd.2 hu)) (ih fun p' hm => hp p' (List.mem_cons_of_mem _ hm))
section
variable {X : Cx}
theorem op_eqDD (hu : X.A.units + 65 < cLine) : OpR X (compareOp .Eq) (rEqDD X.K) := by
  intro pins s σ H x y v u Q I rx ry h
  obtain ⟨a, b, ks, ls, f, g, rfl, rfl, ea, eb, hf, hg, q⟩ := h
  obtain rfl : v = Value.ref a := rx
  obtain rfl : u = Value.ref b := ry
  obtain ⟨_, ya, va, ra, da⟩ := dk_rd I.hok ea
  obtain ⟨_, yb, vb, rb, db⟩ := dk_rd I.hok eb
  have e : eqKB ks ls f g = (va.length == vb.length && ks.all fun p => (valV ls p.1).isSome && PyData.eqv (f p.1) (g p.1)) := by
    unfold eqKB
    rw [Paired.length ra, Paired.length rb]
  rw [e] at q
  exact PySem.W.keq_eq (knd := mixKind X.prog X.w) ya yb da db (by omega) (fun _ => hitsD I (by show X.A.units + 1 + 64 < cLine; omega) rb hg ra hf) ⟨.bl _, H, I, rfl, q⟩
theorem op_neDD (hu : X.A.units + 65 < cLine) : OpR X (compareOp .NotEq) (rNeDD X.K) := by
  intro pins s σ H x y v u Q I rx ry h
  obtain ⟨a, b, ks, ls, f, g, rfl, rfl, ea, eb, hf, hg, q⟩ := h
  obtain rfl : v = Value.ref a := rx
  obtain rfl : u = Value.ref b := ry
  obtain ⟨_, ya, va, ra, da⟩ := dk_rd I.hok ea
  obtain ⟨_, yb, vb, rb, db⟩ := dk_rd I.hok eb
  have e : eqKB ks ls f g = (va.length == vb.length && ks.all fun p => (valV ls p.1).isSome && PyData.eqv (f p.1) (g p.1)) := by
    unfold eqKB
    rw [Paired.length ra, Paired.length rb]
  rw [e] at q
  exact PySem.W.keq_ne (knd := mixKind X.prog X.w) ya yb da db (by omega) (fun _ => hitsD I (by show X.A.units + 1 + 64 < cLine; omega) rb hg ra hf) ⟨.bl _, H, I, rfl, q⟩
end
/-! rows of texts under text keys -/
def ssD (ws : List Str) : PyData := .tuple (ws.map PyData.str)
theorem dpAll_strs {K : PySem.W.Frag} {H : Hp} : ∀ ws : List Str, DpAll K H (ws.map V.str) (ws.map PyData.str)
  | [] => .nil
  | z :: r => .cons (.str z) (dpAll_strs r)
end Ox
namespace Ox
open PySem PySem.Spec PyProof.Rows L2
theorem hu65 {A : Around} {k : Nat} (r : Room k A) : A.units + 65 < cLine := by have := r.un; omega
end Ox
namespace Ox
open PySem PySem.Spec PyProof.Rows L2
theorem wipe_one {σ : L2.St} {n : Nat} {v : Option V} : wipe ((wipe σ [n]).set n v) [n] = wipe σ [n] := by
  show ((σ.set n none).set n v).set n none = σ.set n none
  rw [List.set_set, List.set_set]
theorem filt_snoc {α : Type} {as : List α} {p : α → Bool} {i : Nat} {a : α} (h : as[i]? = some a) : (as.take (i + 1)).filter p = (as.take i).filter p ++ (if p a = true then [a] else []) := by
  have e : as.take (i + 1) = as.take i ++ [a] := by rw [List.take_succ, h]; rfl
  rw [e, List.filter_append, List.filter_cons]
  rfl
/-- a list comprehension over what c makes of the items of as: those with p, f of them -/
theorem lcFM {α : Type} {as : List α} {c : α → V} {J : It} {G : Hp → Prop} {n : Nat} {σ : L2.St} {H : Hp} {D : Addr} {Qd : Hp → Prop} {tt : TT} {te : TE} (w : L2.Walk J (as.map c).length G (L2.YAt (as.map c))) (hG : ∀ H', L2.Same H H' → G H') (hD : H D = none) (p : α → Bool) (f : α → V) (hl : as.length ≤ 10000)
    (ht : ∀ a ∈ as, ∀ H', L2.Same H H' → ∀ R : Bool → Hp → Prop, (∀ H'', L2.Same H' H'' → R (p a) H'') → tt ((wipe σ [n]).set n (some (c a))) H' R)
    (he : ∀ a ∈ as, p a = true → ∀ H', L2.Same H H' → ∀ Qk : VK, (∀ H'', L2.Same H' H'' → Qk (f a) H'') → te ((wipe σ [n]).set n (some (c a))) H' Qk)
    (k : ∀ H', L2.Same H H' → H' D = some (.lst ((as.filter p).map f)) → Qd H') : LcP J (gName n) tt te [n] σ D Qd H := by
  refine lc_by w (fun i H' => L2.Same H H' ∧ H' D = some (.lst (((as.take i).filter p).map f))) ⟨same_new hD, upd_same⟩ (fun i H' _ h => hG H' h.1) ?_ ?_
  · rintro i x H1 H2 hi ⟨s1, h1⟩ ⟨rfl, hx⟩
    rw [List.getElem?_map] at hx
    cases ha : as[i]? with
    | none => rw [ha] at hx; cases hx
    | some a =>
      rw [ha] at hx
      have ex : c a = x := Option.some.inj hx
      subst ex
      have hm := List.mem_of_getElem? ha
      refine x_g1 ⟨wipe_one, ?_⟩
      refine ht a hm H2 s1 _ fun H3 s3 => ?_
      have fl := filt_snoc (p := p) ha
      cases hp : p a with
      | true =>
        rw [hp, if_pos rfl] at fl
        refine x_T ?_
        refine he a hm hp H3 (s1.trans s3) _ fun H4 s4 => ?_
        have len : ((as.take i).filter p).length ≤ 10000 - 1 := by
          have := List.length_filter_le p (as.take i)
          rw [List.length_take] at this
          rw [List.length_map] at hi
          omega
        refine ⟨_, s4 _ _ (s3 _ _ h1), sz_lt (by rw [List.length_map]; omega), same_upd ((s1.trans s3).trans s4) hD, ?_⟩
        rw [upd_same, fl, List.map_append]
        rfl
      | false =>
        rw [hp, if_neg Bool.false_ne_true, List.append_nil] at fl
        refine x_F ?_
        refine ⟨s1.trans s3, ?_⟩
        rw [fl]
        exact s3 _ _ h1
  · rintro H1 ⟨s1, h1⟩
    rw [List.length_map, List.take_length] at h1
    exact k H1 s1 h1
/-- a dict comprehension: of those with p, the text kf and f of them; the texts are all different -/
theorem dcFM {α β : Type} {as : List α} {c : α → V} {g : β → V} {J : It} {G : Hp → Prop} {n : Nat} {σ : L2.St} {H : Hp} {D : Addr} {Qd : Hp → Prop} {tt : TT} {tk tv : TE} (w : L2.Walk J (as.map c).length G (L2.YAt (as.map c))) (hG : ∀ H', L2.Same H H' → G H') (hD : H D = none) (p : α → Bool) (kf : α → Str) (f : α → β) (hl : as.length ≤ 9999)
    (nd : ((as.filter p).map kf).Nodup)
    (ht : ∀ a ∈ as, ∀ H', L2.Same H H' → ∀ R : Bool → Hp → Prop, (∀ H'', L2.Same H' H'' → R (p a) H'') → tt ((wipe σ [n]).set n (some (c a))) H' R)
    (hk : ∀ a ∈ as, p a = true → ∀ H', L2.Same H H' → ∀ Qk : VK, (∀ H'', L2.Same H' H'' → Qk (.str (kf a)) H'') → tk ((wipe σ [n]).set n (some (c a))) H' Qk)
    (he : ∀ a ∈ as, p a = true → ∀ H', L2.Same H H' → ∀ Qk : VK, (∀ H'', L2.Same H' H'' → Qk (g (f a)) H'') → tv ((wipe σ [n]).set n (some (c a))) H' Qk)
    (k : ∀ H', L2.Same H H' → H' D = some (.dK (strK g ((as.filter p).map fun a => (kf a, f a)))) → Qd H') : DcP J (gName n) tt tk tv [n] σ D Qd H := by
  refine dc_by w (fun i H' => L2.Same H H' ∧ H' D = some (.dK (strK g (((as.take i).filter p).map fun a => (kf a, f a))))) ⟨same_new hD, upd_same⟩ (fun i H' _ h => hG H' h.1) ?_ ?_
  · rintro i x H1 H2 hi ⟨s1, h1⟩ ⟨rfl, hx⟩
    rw [List.getElem?_map] at hx
    cases ha : as[i]? with
    | none => rw [ha] at hx; cases hx
    | some a =>
      rw [ha] at hx
      have ex : c a = x := Option.some.inj hx
      subst ex
      have hm := List.mem_of_getElem? ha
      refine x_g1 ⟨wipe_one, ?_⟩
      refine ht a hm H2 s1 _ fun H3 s3 => ?_
      have fl := filt_snoc (p := p) ha
      cases hp : p a with
      | true =>
        rw [hp, if_pos rfl] at fl
        refine x_T ?_
        refine hk a hm hp H3 (s1.trans s3) _ fun H4 s4 => ?_
        refine he a hm hp H4 ((s1.trans s3).trans s4) _ fun H5 s5 => ?_
        have len : ((as.take i).filter p).length ≤ 9998 := by
          have := List.length_filter_le p (as.take i)
          rw [List.length_take] at this
          rw [List.length_map] at hi
          omega
        have fresh : kf a ∉ (((as.take i).filter p).map fun a => (kf a, f a)).map (·.1) := fun hmem => by
          rw [List.map_map] at hmem
          have e1 : as = as.take (i + 1) ++ as.drop (i + 1) := (List.take_append_drop _ _).symm
          rw [e1, List.filter_append, fl, List.map_append, List.map_append] at nd
          exact (List.nodup_append.mp (List.nodup_append.mp nd).1).2.2 (kf a) hmem (kf a) List.mem_cons_self rfl
        refine ⟨_, Sum.inr (kf a), rfl, s5 _ _ (s4 _ _ (s3 _ _ h1)), sz_lt (by rw [List.length_map, List.length_map]; omega), same_upd (((s1.trans s3).trans s4).trans s5) hD, ?_⟩
        rw [upd_same, strK_put, putL_new _ fresh, fl, List.map_append]
        rfl
      | false =>
        rw [hp, if_neg Bool.false_ne_true, List.append_nil] at fl
        refine x_F ?_
        refine ⟨s1.trans s3, ?_⟩
        rw [fl]
        exact s3 _ _ h1
  · rintro H1 ⟨s1, h1⟩
    rw [List.length_map, List.take_length] at h1
    exact k H1 s1 h1
/-! texts compared -/
theorem eqvAll_strs : ∀ xs ys : List Str, PyData.eqvAll (xs.map PyData.str) (ys.map PyData.str) = decide (xs = ys)
  | [], [] => rfl
  | [], _ :: _ => rfl
  | _ :: _, [] => rfl
  | x :: r, y :: t => by
    show (PyData.eqv (.str x) (.str y) && PyData.eqvAll (r.map PyData.str) (t.map PyData.str)) = _
    rw [eqvAll_strs r t]
    have e : PyData.eqv (.str x) (.str y) = decide (x = y) := by
      show (x == y) = _
      by_cases h : x = y
      · rw [h]; simp
      · have h2 : (x == y) = false := by simpa using h
        rw [h2]
        exact (decide_eq_false h).symm
    rw [e]
    by_cases h : x = y
    · by_cases h2 : r = t
      · simp [h, h2]
      · simp [h, h2]
    · simp [h]
theorem strs_lay : ∀ xs : List Str, (∀ z ∈ xs, PyData.strOk z = true) → PyData.canLayAll0 (xs.map PyData.str) = true ∧ PyData.depthAll (xs.map PyData.str) = 0
  | [], _ => ⟨rfl, rfl⟩
  | x :: r, h => by
    obtain ⟨h1, h2⟩ := strs_lay r fun y hy => h y (List.mem_cons_of_mem _ hy)
    have h3 := h x List.mem_cons_self
    rw [List.map_cons]
    refine ⟨?_, ?_⟩
    · show (PyData.strOk x && PyData.canLayAll0 (r.map PyData.str)) = true
      rw [h1, h3]
      rfl
    · show max 0 (PyData.depthAll (r.map PyData.str)) = 0
      rw [h2]
      rfl
theorem ssD_shaped {xs : List Str} (h : ∀ z ∈ xs, PyData.strOk z = true) : SeqAt.shaped (ssD xs) = true := by
  obtain ⟨h1, h2⟩ := strs_lay xs h
  unfold SeqAt.shaped
  have e1 : PyData.canLay0 (ssD xs) = true := h1
  have e2 : PyData.depth (ssD xs) ≤ 64 := by
    show PyData.depthAll (xs.map PyData.str) + 1 ≤ 64
    rw [h2]
    decide
  rw [e1, decide_eq_true e2]
  rfl
theorem ssL_shaped {xs : List Str} (h : ∀ z ∈ xs, PyData.strOk z = true) : SeqAt.shaped (.list (xs.map PyData.str)) = true := ssD_shaped h
theorem ssD_eqv (xs ys : List Str) : PyData.eqv (ssD xs) (ssD ys) = decide (xs = ys) := eqvAll_strs xs ys
section
variable {K : PySem.W.Frag} {H : Hp} {Q : VK} {a b : Addr} {xs ys : List Str}
theorem x_neTS (ha : SqT K H a (xs.map V.str)) (hb : SqT K H b (ys.map V.str)) (hx : ∀ z ∈ xs, PyData.strOk z = true) (hy : ∀ z ∈ ys, PyData.strOk z = true) (q : Q (.bl (!decide (xs = ys))) H) : rNeD K (.ref a) (.ref b) H Q :=
  ⟨_, _, .tup ha (dpAll_strs xs), .tup hb (dpAll_strs ys), ssD_shaped hx, ssD_shaped hy, by rw [show PyData.eqv (.tuple (xs.map PyData.str)) (.tuple (ys.map PyData.str)) = decide (xs = ys) from ssD_eqv xs ys]; exact q⟩
theorem x_neLS (ha : SqL K H a (xs.map V.str)) (hb : SqL K H b (ys.map V.str)) (hx : ∀ z ∈ xs, PyData.strOk z = true) (hy : ∀ z ∈ ys, PyData.strOk z = true) (q : Q (.bl (!decide (xs = ys))) H) : rNeD K (.ref a) (.ref b) H Q :=
  ⟨_, _, .lst ha (dpAll_strs xs), .lst hb (dpAll_strs ys), ssL_shaped hx, ssL_shaped hy, by rw [show PyData.eqv (.list (xs.map PyData.str)) (.list (ys.map PyData.str)) = decide (xs = ys) from eqvAll_strs xs ys]; exact q⟩
theorem x_eqTS (ha : SqT K H a (xs.map V.str)) (hb : SqT K H b (ys.map V.str)) (hx : ∀ z ∈ xs, PyData.strOk z = true) (hy : ∀ z ∈ ys, PyData.strOk z = true) (q : Q (.bl (decide (xs = ys))) H) : rEqD K (.ref a) (.ref b) H Q :=
  ⟨_, _, .tup ha (dpAll_strs xs), .tup hb (dpAll_strs ys), ssD_shaped hx, ssD_shaped hy, by rw [show PyData.eqv (.tuple (xs.map PyData.str)) (.tuple (ys.map PyData.str)) = decide (xs = ys) from ssD_eqv xs ys]; exact q⟩
theorem x_eqLS (ha : SqL K H a (xs.map V.str)) (hb : SqL K H b (ys.map V.str)) (hx : ∀ z ∈ xs, PyData.strOk z = true) (hy : ∀ z ∈ ys, PyData.strOk z = true) (q : Q (.bl (decide (xs = ys))) H) : rEqD K (.ref a) (.ref b) H Q :=
  ⟨_, _, .lst ha (dpAll_strs xs), .lst hb (dpAll_strs ys), ssL_shaped hx, ssL_shaped hy, by rw [show PyData.eqv (.list (xs.map PyData.str)) (.list (ys.map PyData.str)) = decide (xs = ys) from eqvAll_strs xs ys]; exact q⟩
theorem x_tupD {p : Addr} {kvs : List (Key × V)} (h : Rd H p (.dK kvs)) (q : ∀ l, H l = none → Q (.ref l) (upd H l (.tup (kvs.map fun kv => kV kv.1)))) : rTupD [V.ref p] H Q := ⟨p, kvs, rfl, h, q⟩
end
end Ox

/-! Own layer: sorted(a list of tuples of whole numbers, of any lengths, the empty one ahead). -/
namespace Ox
open PySem PySem.Spec PyProof.Rows L2
theorem lex_asym : ∀ a b : List Int, HT.lexLt a b = true → HT.lexLt b a = false
  | [], [], h => by cases h
  | [], _ :: _, _ => rfl
  | _ :: _, [], h => by cases h
  | x :: r, y :: t, h => by
    rw [HT.lexLt_cons] at h ⊢
    by_cases e : x = y
    · rw [if_pos e] at h
      rw [if_pos e.symm]
      exact lex_asym r t h
    · rw [if_neg e] at h
      rw [if_neg (fun q => e q.symm)]
      have := of_decide_eq_true h
      exact decide_eq_false (by omega)
theorem lex_trans : ∀ a b c : List Int, HT.lexLt b a = false → HT.lexLt c b = false → HT.lexLt c a = false
  | [], _, [], _, _ => rfl
  | [], [], _ :: _, _, _ => rfl
  | [], _ :: _, _ :: _, _, _ => rfl
  | _ :: _, [], _, h, _ => by cases h
  | _ :: _, _ :: _, [], _, h => by cases h
  | x :: r, y :: t, z :: u, h1, h2 => by
    rw [HT.lexLt_cons] at h1 h2 ⊢
    by_cases e1 : y = x
    · rw [if_pos e1] at h1
      by_cases e2 : z = y
      · rw [if_pos e2] at h2
        rw [if_pos (e2.trans e1)]
        exact lex_trans r t u h1 h2
      · rw [if_neg e2] at h2
        have := of_decide_eq_false h2
        rw [if_neg (by omega)]
        exact decide_eq_false (by omega)
    · rw [if_neg e1] at h1
      have a1 := of_decide_eq_false h1
      by_cases e2 : z = y
      · rw [if_neg (by omega)]
        exact decide_eq_false (by omega)
      · rw [if_neg e2] at h2
        have := of_decide_eq_false h2
        rw [if_neg (by omega)]
        exact decide_eq_false (by omega)
theorem lex_anti : ∀ a b : List Int, HT.lexLt b a = false → HT.lexLt a b = false → a = b
  | [], [], _, _ => rfl
  | [], _ :: _, _, h => by cases h
  | _ :: _, [], h, _ => by cases h
  | x :: r, y :: t, h1, h2 => by
    rw [HT.lexLt_cons] at h1 h2
    by_cases e : x = y
    · rw [if_pos e.symm] at h1
      rw [if_pos e] at h2
      rw [e, lex_anti r t h1 h2]
    · rw [if_neg (fun q => e q.symm)] at h1
      rw [if_neg e] at h2
      have := of_decide_eq_false h1
      have := of_decide_eq_false h2
      omega
theorem swo_lexL (k : Value → List Int) : SrtO.Swo fun v u => HT.lexLt (k v) (k u) := ⟨fun x y h => lex_asym _ _ h, fun x y z h1 h2 => lex_trans _ _ _ h1 h2⟩
/-- a tuple of the ints ns -/
def TupI (h : Heap) (v : Value) (ns : List Int) : Prop := ∃ a its, v = .ref a ∧ IsTup h a its ∧ IntsAre its.toList ns
theorem TupI.keep {h h' : Heap} {v : Value} {ns : List Int} (t : TupI h v ns) (k : ∀ b o, h.get? b = some o → o.cls = .type "tuple" → h'.get? b = some o) : TupI h' v ns := by
  obtain ⟨a, its, e, ⟨o, ho, hc, hd⟩, hi⟩ := t
  exact ⟨a, its, e, ⟨o, k a o ho hc, hc, hd⟩, hi⟩
section
variable {prog : Program} {w : World} {A : Around} {s : Shared}
/-- the first items of tuples, where they have any -/
theorem firstsG {M : Model} {E : Value → Shared → Prop} : ∀ (vs : List Value) {Q : List (Option Value) → Shared → Prop}, (∀ v ∈ vs, ∃ ns, TupI s.heap v ns) → (∀ gs : List (Option Value), gs.length = vs.length → (∀ v r, vs = v :: r → TupI s.heap v [] → ∃ g, gs = none :: g) → Q gs s) → wpAny M A (vs.mapM firstOfTuple') Q E s
  | [], _, _, h => by
    rw [List.mapM_nil]
    exact wpAny_pure (h [] rfl fun v r e => by cases e)
  | v :: vs, Q, t, h => by
    obtain ⟨ns, a, its, rfl, ⟨o, ho, hc, n, hd⟩, hi⟩ := t v List.mem_cons_self
    rw [List.mapM_cons]
    refine wpAny_bind ?_
    rw [PySem.W.kas_first_eq]
    refine wpAny_bind (PySem.W.Looks.here (show PySem.W.Looks M s.heap (typeOf (.ref a)) o.cls from (PySem.W.Looks.ld ho).andThen .now) ?_)
    rw [hc, if_neg (by first | decide | simp)]
    refine wpAny_bind (listItems_at ho hd (wpAny_pure ?_))
    refine wpAny_bind (firstsG vs (fun v hv => t v (List.mem_cons_of_mem _ hv)) fun gs hl _ => ?_)
    refine wpAny_pure (h (its[0]? :: gs) (by simp [hl]) fun v r e te => ?_)
    cases e
    obtain ⟨a', its', e', ⟨o', ho', hc', n', hd'⟩, hi'⟩ := te
    cases e'
    rw [ho] at ho'
    cases ho'
    rw [hd] at hd'
    cases hd'
    have : its.toList = [] := by
      cases hq : its.toList with
      | nil => rfl
      | cons x y => rw [hq] at hi'; cases hi'
    have e0 : its[0]? = none := by
      rw [← Array.getElem?_toList, this]
      rfl
    exact ⟨gs, by rw [e0]⟩
theorem kindLots {E : Value → Shared → Prop} {Q : SortKind → Shared → Prop} {v0 : Value} {r : List Value} (h0 : TupI s.heap v0 []) (ht : ∀ v ∈ v0 :: r, ∃ ns, TupI s.heap v ns) (h : Q oneType' s) : wpAny (model prog w) A (keyKind' (v0 :: r).toArray) Q E s := by
  rw [PyProof.Rows.kat_kind_eq, List.mapM_toArray, map_eq_pure_bind]
  refine wpAny_bind (wpAny_bind (firstsG (v0 :: r) ht fun gs hl hg => ?_))
  obtain ⟨g, rfl⟩ := hg v0 r rfl h0
  refine wpAny_pure ?_
  have hall : ((none :: g).toArray.all fun x : Option Value => x.isSome) = false := by simp
  rw [hall, if_neg Bool.false_ne_true]
  have h1 : (((none :: g).toArray[0]?).bind id : Option Value).isSome = false := by simp
  rw [h1, if_neg Bool.false_ne_true, oneTypeOnly'_eq, List.mapM_toArray, map_eq_pure_bind]
  refine wpAny_bind (wpAny_bind (wpAny_bind (PySem.W.kas_mapM (r := Value.type "tuple") _ (fun v hv Q' hq => ?_) (wpAny_pure ?_))))
  · obtain ⟨ns, a, its, rfl, ⟨o, ho, hc, hd⟩, _⟩ := ht v hv
    refine (show PySem.W.Looks (model prog w) s.heap (typeOf (.ref a)) o.cls from (PySem.W.Looks.ld ho).andThen .now).here ?_
    rw [hc]
    exact hq
  · have hall2 : ((List.map (fun _ => Value.type "tuple") (v0 :: r)).toArray.all fun x => x == Value.type "tuple") = true := by
      simp only [List.all_toArray, List.all_map, List.all_eq_true]
      intro _ _
      rfl
    have h00 : (List.map (fun _ => Value.type "tuple") (v0 :: r)).toArray[0]? = some (Value.type "tuple") := by simp
    rw [h00]
    simp only [hall2, if_true]
    exact wpAny_pure (wpAny_pure h)
theorem cmpLots {vs : List Value} {k : Value → List Int} (hu : A.units < cLine) (hp : ∀ v ∈ vs, TupI s.heap v (k v)) : SrtO.Cmp prog w A s oneType' (fun p => p.1 ∈ vs) (SrtO.lt2 fun v u => HT.lexLt (k v) (k u)) := by
  intro p q hm hm'
  obtain ⟨a, its, e, t1, i1⟩ := hp _ hm
  obtain ⟨b, its2, e2, t2, i2⟩ := hp _ hm'
  show wpAny (model prog w) A (keyLt' oneType' p.1 q.1) (fun r s' => s' = s ∧ r = HT.lexLt (k p.1) (k q.1)) (fun _ _ => False) s
  rw [keyLt'_oneType, oneLt'_eq, e, e2]
  rw [e] at i1
  rw [e2] at i2
  simp only [if_true]
  refine wpAny_bind (wpAny_cRoomFor hu ?_)
  obtain ⟨⟨cls, dd, data, sl⟩, ho, hc, n, hd⟩ := id t1
  obtain ⟨⟨cls2, dd2, data2, sl2⟩, ho2, hc2, n2, hd2⟩ := id t2
  simp only at hc hd hc2 hd2
  subst hc hd hc2 hd2
  refine wpAny_bind (wpAny_callSpecialIfBound?_slot (T := "tuple") ⟨_, ho, rfl⟩ PySem.F.slot_tuple_lt ?_)
  refine call_meets PySem.F.slot_tuple_lt ⟨_, ho, rfl⟩ PySem.F.entry_tuple_lt (PySem.F.args_tuple_lt_2 _ _) (HT.tuple_lt_ints a b its its2 n n2 dd dd2 sl sl2 _ _ i1 i2) ⟨ho, ho2, ?_⟩
  exact wpAny_truthy_bool ⟨rfl, rfl⟩
theorem sortedLots {l : Addr} {v0 : Value} {r : List Value} {k : Value → List Int} {E : Value → Shared → Prop} {Q : Value → Shared → Prop} (hu : A.units + 2 < cLine) (hl : s.heap.IsList l (v0 :: r).toArray) (hz : (v0 :: r).length ≤ sizeLine) (h0 : k v0 = []) (hp : ∀ v ∈ v0 :: r, TupI s.heap v (k v))
    (h : ∀ (h' : Heap) (d : Addr) (out : List Value), SrtO.Srtd (fun v u => HT.lexLt (k v) (k u)) out → out.Perm (v0 :: r) → (∀ b o, s.heap.get? b = some o → h'.get? b = some o) → s.heap.objs.size ≤ d → (∃ n, h'.get? d = some (seqObj "list" out.toArray n)) → Q (.ref d) { s with heap := h' }) :
    wpAny (model prog w) A (call (.builtin "sorted") [.ref l]) Q E s := by
  refine SrtO.sorted_ord (swo_lexL k) hl hz (fun h2 h₁ a ha kk => ?_) fun out hs hb => ?_
  · intro h' keep
    have ne : ∀ o, h₁.get? a = some o → o.cls ≠ .type "tuple" := fun o e => by
      rw [ha] at e
      cases e
      intro c
      exact absurd (Value.type.inj c) (by decide)
    have hp' : ∀ v ∈ v0 :: r, TupI h' v (k v) := fun v hm => (hp v hm).keep fun b o e c => keep b o (fun z => by subst z; exact ne o ((kk b o e).2) c) (kk b o e).2
    refine ⟨oneType', fun Q E hq => ?_, cmpLots (by show A.units + 1 + 1 < cLine; omega) hp'⟩
    refine kindLots (s := { s with heap := h' }) ?_ (fun v hv => ⟨_, hp' v hv⟩) hq
    have := hp' v0 List.mem_cons_self
    rw [h0] at this
    exact this
  · exact h _ _ out hs hb.perm (fun b o e => sortedAll_old e) (Nat.le_succ _) (sortedAll_at s.heap (v0 :: r) out.toArray)
end
/-! the rule: the items are references -/
def rSortLots (K : PySem.W.Frag) : List V → Hp → VK → Prop := fun vs H Q => ∃ (l a0 : Addr) (as : List Addr) (f : Addr → List Int), vs = [.ref l] ∧ SqL K H l ((a0 :: as).map V.ref) ∧ f a0 = [] ∧ (∀ a ∈ a0 :: as, SqT K H a ((f a).map V.int)) ∧
  ∀ (out : List Addr) (p : Addr), out.Perm (a0 :: as) → out.Pairwise (fun a b => HT.lexLt (f b) (f a) = false) → H p = none → Q (.ref p) (upd H p (.lst (out.map V.ref)))
def refOf : Value → Addr
  | .ref a => a
  | _ => 0
theorem vals_refs {as : List Addr} : ∀ {us : List Value}, Vals (as.map V.ref) us → us = as.map Value.ref := by
  induction as with
  | nil => intro us h; cases h; rfl
  | cons a r ih =>
    intro us h
    cases h with
    | cons h1 h2 => rw [ih h2, show _ = Value.ref a from h1]; rfl
theorem refs_vals : ∀ as : List Addr, Vals (as.map V.ref) (as.map Value.ref)
  | [] => .nil
  | a :: r => .cons rfl (refs_vals r)
theorem cr_sortedLots {X : Cx} (hu : X.A.units + 2 < cLine) : CallR X (.builtin "sorted") (rSortLots X.K) := by
  intro pins s σ H vs us Q I r h
  obtain ⟨l, a0, as, f, rfl, hs, h0, hf, q⟩ := h
  obtain ⟨its, rv, hl, hz⟩ := I.list hs
  obtain ⟨u, rfl, ru⟩ := vals1 r
  obtain rfl : u = Value.ref l := ru
  obtain rfl := vals_refs rv
  refine sortedLots (k := fun v => f (refOf v)) (v0 := .ref a0) (r := as.map Value.ref) hu hl.isList (by show ((a0 :: as).map Value.ref).length ≤ _; rw [← rv.length]; exact hz) h0 (fun v hv => ?_) fun h' d out h1 h2 kp hd hn => ?_
  · obtain ⟨a, ha, rfl⟩ := List.mem_map.mp (show v ∈ (a0 :: as).map Value.ref from hv)
    obtain ⟨its2, r2, p2, _⟩ := I.tuple (hf a ha)
    exact ⟨a, its2.toArray, rfl, p2, intsAre_of r2⟩
  · obtain ⟨n, hn⟩ := hn
    have eo : out = (out.map refOf).map Value.ref := by
      rw [List.map_map]
      conv => lhs; rw [← List.map_id out]
      refine List.map_congr_left fun v hv => ?_
      obtain ⟨a, _, rfl⟩ := List.mem_map.mp (show v ∈ (a0 :: as).map Value.ref from h2.mem_iff.mp hv)
      rfl
    have pm : (out.map refOf).Perm (a0 :: as) := by
      have := h2.map refOf
      have e2 : ((Value.ref a0 :: as.map Value.ref).map refOf) = a0 :: as := by
        show a0 :: (as.map Value.ref).map refOf = _
        rw [List.map_map]
        have : (refOf ∘ Value.ref) = (id : Addr → Addr) := rfl
        rw [this, List.map_id]
      rw [e2] at this
      exact this
    refine ⟨.ref d, upd H d (.lst ((out.map refOf).map V.ref)), I.laid (t' := s.toks) kp hd ⟨?_, (out.map refOf).map Value.ref, n, refs_vals _, by rw [← eo]; exact hn⟩, rfl, q _ d pm (List.pairwise_map.mpr h1) (I.hok.fresh hd)⟩
    rw [List.length_map, pm.length_eq]
    rw [List.length_map] at hz
    exact hz
end Ox
namespace Ox
open PySem PySem.Spec PyProof.Rows L2
theorem hu2 {A : Around} {k : Nat} (r : Room k A) : A.units + 2 < cLine := by have := r.un; omega
theorem op_catAK {X : Cx} {K : PySem.W.Frag} (e : X.K = K := by rfl) : OpR X (binaryOp .Add) (rCatA K) := e ▸ op_catA
theorem x_catA {K : PySem.W.Frag} {H : Hp} {Q : VK} {a b : Addr} {xs ys : List V} (ha : SqT K H a xs) (hb : H b = some (.tup ys)) (hy : ys ≠ []) (hl : xs.length + ys.length ≤ 10000) (q : ∀ p H', L2.Same H H' → H' p = some (.tup (xs ++ ys)) → Q (.ref p) H') : rCatA K (.ref a) (.ref b) H Q :=
  ⟨a, b, xs, ys, rfl, rfl, ha, SqT.of hb, sz_le hl, fun e => q b H (fun _ _ h => h) (by rw [e]; exact hb), fun _ e => absurd e hy, fun _ _ p hp => q p _ (same_new hp) upd_same⟩
end Ox

/-! Own layer: the law's own def, walked where it is called (so that no repr is under way there), and repr of nested data. -/
namespace Ox
open PySem PySem.Spec PyProof.Rows L2
section
variable {P : Program} {w : World} {K : PySem.W.Frag} {mg : Str → Option Value} {base : Heap}
/-- a law's promise: as FnOk, for the law's caller alone -/
structure FnL (P : Program) (w : World) (K : PySem.W.Frag) (mg : Str → Option Value) (base : Heap) (f : Addr) (fd : FuncData) (ps : List Str) (sp : Sp) : Prop where
  len : ∀ vs H Q E, sp vs H Q E → vs.length = ps.length
  run : ∀ (s : Shared) (H : Hp) (args : Args) (us : List Value) (vs : List V) (Q : VK), Env0 P w K mg base callerA [] s H → BindsTo s fd args (ps.zip us) → Vals vs us → sp vs H Q E0 →
    codeAny (model P w) callerA (.call (.ref f) args) (CR CX0 [] P w H s Q E0) s
/-- the body's context where the law's caller calls -/
abbrev cxL (P : Program) (w : World) (K : PySem.W.Frag) (mg : Str → Option Value) (base : Heap) (N : List Str) (qual : Str) (sc : Scope) (f : Addr) (cdv : Value) (s : Shared) (H : Hp) : Cx := cxOf CX0 P w K mg base N qual sc f cdv callerA [] s H E0
theorem Fun.okL {x qual : Str} {st : Stmt} {f : Addr} {fd : FuncData} {N ps : List Str} {k : Nat} {sp : Sp} (hr : Room (k + 1) callerA) (F : Fun K x qual st f fd) (S : FnScope N ps (defScope st)) (len : ∀ vs H Q E, sp vs H Q E → vs.length = ps.length)
    (body : ∀ (cdv : Value) (s : Shared) (H : Hp) (vs : List V) (Q : VK), Room k (callerA.deeper (envOfC qual (defScope st) s.heap.objs.size f cdv)) → sp vs H Q E0 →
      ∃ t, PSs (cxL P w K mg base N qual (defScope st) f cdv s H).nox (defBody st) t ∧ t { nx := fun _ H' => Q .non H', rt := Q } (start N vs) H) : FnL P w K mg base f fd ps sp := by
  obtain ⟨oc, od, kV, doc, pm, an, cdv, ct, osl, rfl, lk, hcd⟩ := F.ex
  refine ⟨len, ?_⟩
  intro s H args us vs Q e0 hb r hsp
  have old : ∀ b o, base.get? b = some o → s.heap.get? b = some o := fun b o e => (e0.bs b o e).1
  have par : ∀ y ∈ ps.zip us, (defScope st).names.lookup y.1 = some .local ∨ ((defScope st).names.lookup y.1 = some .cell ∧ ((cellsFrom (s.heap.objs.size + 1) (defScope st).names []).lookup y.1).isSome = true) := by
    rintro ⟨n, v⟩ hy
    exact (S.par n (List.of_mem_zip hy).1).imp id fun q => ⟨q, PySem.W.cellsFrom_some _ _ _ (.inl q)⟩
  refine codeAny_call_function hr.depth (e0.mod.kin.keeps old _ _ lk) rfl S.co S.gen rfl (PySem.W.codeRec_of (e0.mod.kin.keeps old) hcd) (hb _ _ _ _ (wpAny_newFunctionEnv_cells S.kind par ?_))
  rintro env rfl s1 x
  obtain ⟨t, ht, hq⟩ := body cdv s H vs Q (hr.deeper _) hsp
  refine ⟨(e0.mod.nolimit.keeps old).keeps x.toInCall.keep, codeAny_func ?_⟩
  have J : Inv (cxL P w K mg base N qual (defScope st) f cdv s H) [] (start N vs) H s1 := inv_start S rfl e0 (len _ _ _ _ hsp) r x
  refine wpAny_mono (ht.nox.run [] s1 _ H _ J hq) (fun fl s' z => ?_) fun _ _ z => z
  cases fl with
  | ret u =>
    obtain ⟨v, σ', H', I', rv, q⟩ := z
    exact ⟨v, H', I'.os, I'.bare, I'.base, I'.hok, rv, q⟩
  | next =>
    obtain ⟨σ', H', I', q⟩ := z
    exact ⟨V.non, H', I'.os, I'.bare, I'.base, I'.hok, rfl, q⟩
  | brk =>
    obtain ⟨_, _, _, q⟩ := z
    exact q.elim
  | cont =>
    obtain ⟨_, _, _, q⟩ := z
    exact q.elim
end
/-- where the law is called: H tracks the script at a, or nothing -/
theorem envL {P : Program} {w : World} {K : PySem.W.Frag} {mg mb : Str → Option Value} {s : Shared} {H : Hp} {a : Addr} {vs : List Value}
    (KX : K.In s.heap) (g : s.heap.Ns mainGlobals mg) (b : s.heap.Ns builtinsNs mb) (bb : ∀ x : Str, x ≠ "__name__" → mb x = bootBuiltins x) (lim : s.heap.NoLimit) (hg : s.gens = #[])
    (ha : s.heap.get? a = some { cls := .type "list", data := .seq vs.toArray }) (hA : ∀ c, c ≠ a → H c = none) (hK : H a = none ∨ K.lookup a = none) (hok : HOk P w H s.heap) :
    Env0 P w K mg (hidT s.heap H) callerA [] s H ∧ K.In (hidT s.heap H) ∧ (hidT s.heap H).Ns mainGlobals mg := by
  have nsOf : ∀ {c : Addr} {m : Str → Option Value}, s.heap.Ns c m → (hidT s.heap H).Ns c m := by
    rintro c m ⟨o, es, ep, e, d, r⟩
    refine ⟨o, es, ep, hidT_get e (hA c ?_), d, r⟩
    rintro rfl
    rw [ha] at e
    cases e
    cases d
  have inK : K.In (hidT s.heap H) := by
    intro c o e
    refine hidT_get (KX c o e) ?_
    by_cases hc : c = a
    · subst hc
      rcases hK with z | z
      · exact z
      · rw [z] at e; cases e
    · exact hA c hc
  obtain ⟨mc, l1, l2⟩ := lim
  exact ⟨⟨rfl, ⟨inK, nsOf g, ⟨mb, nsOf b, bb⟩, ⟨mc, nsOf l1, l2⟩⟩, fun c o e => of_hidT e, Nat.le_of_eq (hidT_size _ _), trivial, fun c hc => absurd (show c ∈ ([] : List Addr) from hc) (by simp), hok, .of_eq hg⟩, inK, nsOf g⟩
theorem endL {P : Program} {w : World} {s : Shared} {H : Hp} {r : Result} {s' : Shared} (hok : HOk P w H s.heap) (hO : Only H) (h : CR CX0 [] P w H s (fun v _ => v = .bl true) E0 r s') :
    r = .ok (.ret (.bool true)) ∧ OldK s.heap s'.heap ∧ s'.os = s.os ∧ AllBare s'.gens := by
  cases r with
  | error e => exact False.elim h
  | ok fl =>
    cases fl with
    | ret u =>
      obtain ⟨v, H', os, bare, un, hok', rv, q⟩ := h
      obtain rfl : v = V.bl true := q
      obtain rfl : u = Value.bool true := rv
      refine ⟨rfl, OldK.of_keep ?_, os, bare⟩
      intro b o e
      have nil : b ∉ frs ([] : List Env) := fun z => absurd (show b ∈ ([] : List Addr) from z) (by simp)
      rcases hO b with n | ⟨ob, xs, t⟩
      · exact un.keep b o e n nil (by simp)
      · have t1 : s.heap.get? b = some ob := (hok b _ t).1
        have t2 : s'.heap.get? b = some ob := (hok' b _ (un.frzs b ob _ t)).1
        rw [t1] at e
        rw [t2, Option.some.inj e]
    | next => exact False.elim h
    | brk => exact False.elim h
    | cont => exact False.elim h
/-- the law's end over a head by facts -/
theorem walk_ofL {l : PySem.W.OpenLaw} {n : Nat} {q : Program} {loose : List Str} {XP : (Str → Option Value) → Heap → Prop} {YP : World → Heap → Prop} {d : DefRec} {x : Str}
    (hn : l.most = some n) (hn2 : n ≤ sizeLine) (hdf : d.params.defaults = [])
    (F : ∀ (w : World) (mg : Str → Option Value) (fa : Addr) (h : Heap), YP w h → h.Ns mainGlobals mg → mg d.name = some (.ref fa) →
      ∃ (K : PySem.W.Frag) (fd : FuncData) (sp : Sp), K.In h ∧ (∀ (s : Shared) (u : Value), BindsTo s fd ⟨[u], []⟩ [(x, u)]) ∧
        (∀ (H : Hp) (a : Addr) (ns : List Int), ns.length ≤ n → Only H → SqL K H a (ns.map V.int) → sp [.ref a] H (fun v _ => v = .bl true) fun _ _ _ => False) ∧
        ∀ base : Heap, K.In base → base.Ns mainGlobals mg → FnL l.prog w K mg base fa fd [x] sp) :
    PySem.W.WalkO q loose XP YP l.row.toRowW d [] (fun f vs => PySem.call f vs) := by
  refine Att.attach_call hn hdf ?_
  intro w s₀ s₁ mg mb fa o pm cd doc a vs ns G Y ho hd hcd hmg hobj hints hlen hg
  obtain ⟨K, fd, sp, KX, hb, hsp, hF⟩ := F w mg fa _ Y G.T.g hmg
  have rv := vals_ints hints
  have lv := hints.length
  have go : ∀ H : Hp, Only H → (∀ c, c ≠ a → H c = none) → (H a = none ∨ K.lookup a = none) → HOk l.prog w H s₁.heap → SqL K H a (ns.map V.int) →
      codeAny (model l.prog w) callerA (.call (.ref fa) ⟨[.ref a], []⟩) (fun r s' => r = .ok (.ret (.bool true)) ∧ OldK s₁.heap s'.heap ∧ s'.os = s₁.os ∧ AllBare s'.gens) s₁ := by
    intro H hO hA hK hok hS
    obtain ⟨e0, k1, k2⟩ := envL KX G.T.g G.T.b G.T.builtins G.T.nolimit hg hobj hA hK hok
    exact codeAny_mono ((hF _ k1 k2).run s₁ H _ [.ref a] [.ref a] _ e0 (hb s₁ (.ref a)) (.cons rfl .nil) (hsp H a ns hlen hO hS)) fun r s' z => endL hok hO z
  by_cases hk : K.lookup a = none
  · refine go (upd (fun _ => none) a (.frz { cls := .type "list", data := .seq vs.toArray } (.lst (ns.map V.int)))) (fun b => ?_) (fun c hc => upd_ne hc) (.inr hk) (fun b u z => ?_) (.inl (.inr ⟨_, upd_same⟩))
    · by_cases hb : b = a
      · exact .inr ⟨_, _, by rw [hb]; exact upd_same⟩
      · exact .inl (upd_ne hb)
    · by_cases hb : b = a
      · subst hb
        rw [upd_same] at z
        cases z
        exact ⟨hobj, by rw [List.length_map]; omega, vs, _, rv, hobj⟩
      · rw [upd_ne hb] at z
        cases z
  · obtain ⟨o', hk'⟩ := Option.ne_none_iff_exists'.mp hk
    have e := KX a o' hk'
    rw [hobj] at e
    cases e
    exact go (fun _ => none) (fun _ => .inl rfl) (fun _ _ => rfl) (.inl rfl) (fun _ _ z => by cases z) (.inr ⟨_, vs.toArray, _, hk', rfl, rfl, rfl, by rw [List.size_toArray]; omega, by simpa using rv⟩)
/-! ### repr of nested data -/
/-- a dict's key as data -/
def kD : Key → PyData
  | .inl i => .int i
  | .inr x => .str x
def zipK : List (Key × V) → List PyData → List (PyData × PyData)
  | (k, _) :: r, d :: ds => (kD k, d) :: zipK r ds
  | _, _ => []
theorem zipK_keys : ∀ {kvs : List (Key × V)} {ds : List PyData}, ds.length = kvs.length → (zipK kvs ds).map (·.1) = kvs.map fun p => kD p.1
  | [], [], _ => rfl
  | (k, v) :: r, d :: ds, h => by
    show kD k :: (zipK r ds).map (·.1) = kD k :: r.map fun p => kD p.1
    rw [zipK_keys (by simpa using h)]
  | [], _ :: _, h => by simp at h
  | _ :: _, [], h => by simp at h
theorem zipK_vals : ∀ {kvs : List (Key × V)} {ds : List PyData}, ds.length = kvs.length → (zipK kvs ds).map (·.2) = ds
  | [], [], _ => rfl
  | (k, v) :: r, d :: ds, h => by
    show d :: (zipK r ds).map (·.2) = d :: ds
    rw [zipK_vals (by simpa using h)]
  | [], _ :: _, h => by simp at h
  | _ :: _, [], h => by simp at h
mutual
/-- what stands at v in H, as data -/
inductive Shw (H : Hp) : V → PyData → Prop
  | non : Shw H .non .none
  | bl (b : Bool) : Shw H (.bl b) (.bool b)
  | int (i : Int) : Shw H (.int i) (.int i)
  | str (x : Str) : Shw H (.str x) (.str x)
  | lst {a : Addr} {xs : List V} {ds : List PyData} : Rd H a (.lst xs) → ShwA H xs ds → Shw H (.ref a) (.list ds)
  | tup {a : Addr} {xs : List V} {ds : List PyData} : H a = some (.tup xs) → ShwA H xs ds → Shw H (.ref a) (.tuple ds)
  | dK {a : Addr} {kvs : List (Key × V)} {ds : List PyData} : Rd H a (.dK kvs) → ShwA H (kvs.map (·.2)) ds → Shw H (.ref a) (.dict (zipK kvs ds))
inductive ShwA (H : Hp) : List V → List PyData → Prop
  | nil : ShwA H [] []
  | cons {v : V} {d : PyData} {vs : List V} {ds : List PyData} : Shw H v d → ShwA H vs ds → ShwA H (v :: vs) (d :: ds)
end
theorem ShwA.len {H : Hp} : ∀ {vs : List V} {ds : List PyData}, ShwA H vs ds → ds.length = vs.length
  | _, _, .nil => rfl
  | _, _, .cons _ r => by simp [r.len]
theorem ReadsAll.app1 {h : Heap} : ∀ {us : List Value} {ds : List PyData}, (∀ p ∈ us.zip ds, Reads h p.1 p.2 []) → us.length = ds.length → ReadsAll h us ds []
  | [], [], _, _ => .nil
  | u :: us, d :: ds, k, l => ReadsAll.cons (as := []) (bs := []) (k (u, d) (by simp)) (app1 (fun p hp => k p (by simp [hp])) (by simpa using l))
  | [], _ :: _, _, l => by simp at l
  | _ :: _, [], _, l => by simp at l
theorem keysRead {P : Program} {w : World} {h : Heap} : ∀ {es : List DictEntry} {vs : List (Key × Value)}, Pairs (mixKind P w) es vs → ReadsAll h (es.map (·.key)) (vs.map fun p => kD p.1) [] ∧ es.map (·.val) = vs.map (·.2)
  | _, _, .nil => ⟨.nil, rfl⟩
  | _, _, .cons (e := e) (kv := kv) hk hv r => by
    obtain ⟨i1, i2⟩ := keysRead r
    refine ⟨ReadsAll.cons (as := []) (bs := []) ?_ i1, by rw [List.map_cons, List.map_cons, i2, hv]⟩
    obtain ⟨k, v⟩ := kv
    rcases keyIs_shape hk with ⟨i, t, e1, e2⟩ | ⟨x, t, e1, e2⟩
    · have e1' : k = Sum.inl i := e1
      subst e1'
      show Reads h e.key _ []
      rw [e2]
      exact Reads.int i t
    · have e1' : k = Sum.inr x := e1
      subst e1'
      show Reads h e.key _ []
      rw [e2]
      exact Reads.str x t
theorem kv_keys : ∀ {kvs : List (Key × V)} {vs : List (Key × Value)}, KV kvs vs → vs.map (fun p => kD p.1) = kvs.map (fun p => kD p.1) ∧ Vals (kvs.map (·.2)) (vs.map (·.2))
  | _, _, .nil => ⟨rfl, .nil⟩
  | _, _, .cons r t => by
    obtain ⟨i1, i2⟩ := kv_keys t
    exact ⟨by rw [List.map_cons, List.map_cons, i1, r.1], .cons r.2 i2⟩
mutual
theorem Shw.reads {P : Program} {w : World} {H : Hp} {h : Heap} (ok : HOk P w H h) : ∀ {v : V} {d : PyData}, Shw H v d → ∀ {u : Value}, RelV v u → ∃ as, Reads h u d as ∧ ∀ b ∈ as, H b ≠ none
  | _, _, .non, u, r => by
    obtain rfl : u = Value.none := r
    exact ⟨[], .none, fun b hb => by cases hb⟩
  | _, _, .bl b, u, r => by
    obtain rfl : u = Value.bool b := r
    exact ⟨[], .bool b, fun b hb => by cases hb⟩
  | _, _, .int i, u, r => by
    obtain ⟨t, rfl⟩ := r
    exact ⟨[], .int i t, fun b hb => by cases hb⟩
  | _, _, .str x, u, r => by
    obtain ⟨t, rfl⟩ := r
    exact ⟨[], .str x t, fun b hb => by cases hb⟩
  | _, _, .lst (a := a) (xs := xs) ha hs, u, r => by
    obtain rfl : u = Value.ref a := r
    obtain ⟨_, its, n, rv, hg⟩ := ha.ok ok
    obtain ⟨as, hr, hn⟩ := ShwA.reads ok hs rv
    refine ⟨a :: as, .list hg rfl rfl hr, fun b hb => ?_⟩
    rcases List.mem_cons.mp hb with rfl | hb
    · rcases ha with z | ⟨o, z⟩ <;> rw [z] <;> simp
    · exact hn b hb
  | _, _, .tup (a := a) ha hs, u, r => by
    obtain rfl : u = Value.ref a := r
    obtain ⟨_, its, rv, o, hg, hc, n, hd⟩ := ok a _ ha
    obtain ⟨as, hr, hn⟩ := ShwA.reads ok hs rv
    exact ⟨as, .tuple hg hc hd hr, hn⟩
  | _, _, .dK (a := a) (kvs := kvs) ha hs, u, r => by
    obtain rfl : u = Value.ref a := r
    obtain ⟨_, _, vs, rel, o, es, ep, hg, hx, hd, _, hp, _⟩ := ha.ok ok
    obtain ⟨k1, k2⟩ := keysRead (h := h) hp
    obtain ⟨k3, k4⟩ := kv_keys rel
    obtain ⟨as, hr, hn⟩ := ShwA.reads ok hs k4
    refine ⟨a :: [] ++ as, .dict hg hx.1 hd ?_ ?_, fun b hb => ?_⟩
    · rw [zipK_keys (by rw [hs.len, List.length_map]), ← k3]
      exact k1
    · rw [zipK_vals (by rw [hs.len, List.length_map]), k2]
      exact hr
    · rcases List.mem_cons.mp hb with rfl | hb
      · rcases ha with z | ⟨o, z⟩ <;> rw [z] <;> simp
      · exact hn b hb
theorem ShwA.reads {P : Program} {w : World} {H : Hp} {h : Heap} (ok : HOk P w H h) : ∀ {vs : List V} {ds : List PyData}, ShwA H vs ds → ∀ {us : List Value}, Vals vs us → ∃ as, ReadsAll h us ds as ∧ ∀ b ∈ as, H b ≠ none
  | _, _, .nil, us, r => by
    cases r
    exact ⟨[], .nil, fun b hb => by cases hb⟩
  | _, _, .cons hv hs, us, r => by
    cases r with
    | cons r1 r2 =>
      obtain ⟨as, h1, n1⟩ := Shw.reads ok hv r1
      obtain ⟨bs, h2, n2⟩ := ShwA.reads ok hs r2
      exact ⟨as ++ bs, .cons h1 h2, fun b hb => (List.mem_append.mp hb).elim (n1 b) (n2 b)⟩
end
theorem rd_same {H H' : Hp} {a : Addr} {u : HO} (s : L2.Same H H') (h : Rd H a u) : Rd H' a u := h.imp (s _ _) fun ⟨o, h⟩ => ⟨o, s _ _ h⟩
mutual
theorem Shw.same {H H' : Hp} (s : L2.Same H H') : ∀ {v : V} {d : PyData}, Shw H v d → Shw H' v d
  | _, _, .non => .non
  | _, _, .bl b => .bl b
  | _, _, .int i => .int i
  | _, _, .str x => .str x
  | _, _, .lst h hs => .lst (rd_same s h) (ShwA.same s hs)
  | _, _, .tup h hs => .tup (s _ _ h) (ShwA.same s hs)
  | _, _, .dK h hs => .dK (rd_same s h) (ShwA.same s hs)
theorem ShwA.same {H H' : Hp} (s : L2.Same H H') : ∀ {vs : List V} {ds : List PyData}, ShwA H vs ds → ShwA H' vs ds
  | _, _, .nil => .nil
  | _, _, .cons h hs => .cons (Shw.same s h) (ShwA.same s hs)
end
theorem vals_of1 {x : V} {us : List Value} (r : Vals [x] us) : ∃ u, us = [u] ∧ RelV x u := vals1 r
/-- repr(x) -/
def rRepr : List V → Hp → VK → Prop := fun xs H Q => ∃ (v : V) (d : PyData), xs = [v] ∧ Shw H v d ∧ d.showable = true ∧ d.depth ≤ 64 ∧ d.shown.length ≤ sizeLine ∧ Q (.str d.shown) H
theorem call_repr {X : Cx} (hg : X.A.guards = some []) (hu : X.A.units + 100 < cLine) (hm : (X.K.lookup sysModules).isSome = true) : CallR X (.builtin "repr") rRepr := by
  intro pins s σ H xs us Q I r h
  obtain ⟨v, d, rfl, sh, hs, hd, hz, q⟩ := h
  obtain ⟨u, rfl, ru⟩ := vals1 r
  have deep : ∀ a, v = .ref a → wpAny (model X.prog X.w) X.A (call (.builtin "repr") [u]) (EP X pins σ Q) X.xe s := by
    rintro a rfl
    obtain rfl : u = Value.ref a := ru
    obtain ⟨as, hr, hn⟩ := sh.reads I.hok rfl
    obtain ⟨o, ho⟩ := Option.isSome_iff_exists.mp hm
    have nm : sysModules ∉ as := fun z => hn _ z (I.bs _ _ (I.mod.kin _ _ ho)).2
    exact repr_of_reads' hr hs (fun _ => nm) hg (by omega) (fun _ _ e => e) (fun h' u tk k => ⟨.str _, H, I.kept k, ⟨_, rfl⟩, q⟩) hz
  cases sh with
  | non =>
    obtain rfl : u = Value.none := ru
    exact PySem.P.repr_of_none ⟨.str _, H, I.tok _, ⟨_, rfl⟩, q⟩
  | bl b =>
    obtain rfl : u = Value.bool b := ru
    exact PySem.P.repr_of_bool ⟨.str _, H, I.tok _, ⟨_, rfl⟩, q⟩
  | int i =>
    obtain ⟨t, rfl⟩ := ru
    exact PySem.P.repr_of_int (of_decide_eq_true hs) ⟨.str _, H, I.tok _, ⟨_, rfl⟩, q⟩
  | str x =>
    obtain ⟨t, rfl⟩ := ru
    exact PySem.P.repr_of_str ⟨.str _, H, I.tok _, ⟨_, rfl⟩, q⟩ hz
  | lst _ _ => exact deep _ rfl
  | tup _ _ => exact deep _ rfl
  | dK _ _ => exact deep _ rfl
/-- small data -/
structure Sm (B : Nat) (d : PyData) : Prop where
  sh : d.showable = true
  dp : d.depth ≤ 5
  ln : d.shown.length ≤ B
theorem Sm.mono {B C : Nat} {d : PyData} (h : Sm B d) (hb : B ≤ C) : Sm C d := ⟨h.sh, h.dp, Nat.le_trans h.ln hb⟩
/-- a list's or tuple's own data out of its items' -/
theorem items_of {H : Hp} {B : Nat} : ∀ {xs : List V}, (∀ y ∈ xs, ∃ d, Shw H y d ∧ d.showable = true ∧ d.depth ≤ 4 ∧ d.shown.length ≤ B) → ∃ ds, ShwA H xs ds ∧ PyData.showableAll ds = true ∧ PyData.depthAll ds ≤ 4 ∧ ((PyData.shownAll ds).map (·.length)).sum ≤ xs.length * B ∧ (PyData.shownAll ds).length = xs.length
  | [], _ => ⟨[], .nil, rfl, Nat.zero_le _, Nat.zero_le _, rfl⟩
  | y :: r, h => by
    obtain ⟨d, h1, h2, h3, h4⟩ := h y List.mem_cons_self
    obtain ⟨ds, g1, g2, g3, g4, g5⟩ := items_of fun z hz => h z (List.mem_cons_of_mem _ hz)
    refine ⟨d :: ds, .cons h1 g1, ?_, ?_, ?_, ?_⟩
    · show (d.showable && PyData.showableAll ds) = true
      rw [h2, g2]; rfl
    · show max d.depth (PyData.depthAll ds) ≤ 4
      omega
    · show ((d.shown :: PyData.shownAll ds).map (·.length)).sum ≤ (r.length + 1) * B
      rw [List.map_cons, List.sum_cons, Nat.succ_mul]
      omega
    · show (d.shown :: PyData.shownAll ds).length = _
      rw [List.length_cons, List.length_cons, g5]
theorem row_shw {H : Hp} {B : Nat} {a : Addr} {xs : List V} (ha : Rd H a (.lst xs) ∨ H a = some (.tup xs)) (h : ∀ y ∈ xs, ∃ d, Shw H y d ∧ d.showable = true ∧ d.depth ≤ 4 ∧ d.shown.length ≤ B) : ∃ d, Shw H (.ref a) d ∧ Sm (xs.length * (B + 2) + 3) d := by
  obtain ⟨ds, g1, g2, g3, g4, g5⟩ := items_of h
  have key : ((PyData.shownAll ds).map (·.length)).sum + 2 * (PyData.shownAll ds).length + 3 ≤ xs.length * (B + 2) + 3 := by
    rw [g5, Nat.mul_add]
    omega
  rcases ha with ha | ha
  · exact ⟨_, .lst ha g1, g2, by show PyData.depthAll ds + 1 ≤ 5; omega, Nat.le_trans (listText_len_le _) key⟩
  · exact ⟨_, .tup ha g1, g2, by show PyData.depthAll ds + 1 ≤ 5; omega, Nat.le_trans (tupleText_len_le _) key⟩
end Ox

/-! Own layer: defs that raise, own exceptions without __init__, try .. except X as e. -/
namespace Ox
open PySem PySem.Spec PyProof.Rows L2
abbrev veB : List Value := [.type "ValueError", .type "Exception", .type "BaseException", .type "object"]
/-- the module's name x is an own exception class at C, under ValueError, without own __init__ -/
structure Exc0 (K : PySem.W.Frag) (mg : Str → Option Value) (x : Str) (C : Addr) : Prop where
  gC : mg x = some (.ref C)
  xC : PySem.W.excIn K C veB "ValueError.__new__" = true
  kC : PySem.W.keepIn K (.ref C) = true
  bC : PySem.W.subIn K (.ref C) (.type "BaseException") = some true
  tC : PySem.W.typeIn K (.ref C) = some (.type "type")
/-- .. as a fact -/
def exc0F (x : Str) : PySem.W.Frag → Bool := fun K => PySem.W.excIn K (He.ga K x) veB "ValueError.__new__" && (PySem.W.keepIn K (.ref (He.ga K x)) && (decide (PySem.W.subIn K (.ref (He.ga K x)) (.type "BaseException") = some true) && decide (PySem.W.typeIn K (.ref (He.ga K x)) = some (.type "type"))))
theorem exc0F_ok {x : Str} {K : PySem.W.Frag} {mg : Str → Option Value} (g : mg x = some (.ref (He.ga K x))) (h : exc0F x K = true) : Exc0 K mg x (He.ga K x) := by
  obtain ⟨h1, h⟩ := Bool.and_eq_true_iff.mp h
  obtain ⟨h2, h⟩ := Bool.and_eq_true_iff.mp h
  obtain ⟨h3, h4⟩ := Bool.and_eq_true_iff.mp h
  exact ⟨g, h1, h2, of_decide_eq_true h3, of_decide_eq_true h4⟩
/-- the class C's instances, asked by isinstance -/
def excCF (x : Str) : PySem.W.Frag → Bool := fun K => xfB K (He.ga K x) && (He.eqO (PySem.W.findIn K (.ref (He.ga K x)) "__class__") (some (some (.builtin "object.__class__"))) && (He.eqO (PySem.W.specialIn K (.builtin "object.__class__") "__get__") (some (some (.builtin "getset_descriptor.__get__"))) &&
  (decide (PySem.W.takesIn K (.builtin "object.__class__") = some true) && decide (PySem.W.mroIn K (He.ga K x) (.type "object") = some true))))
theorem excCF_ok {x : Str} {K : PySem.W.Frag} (h : excCF x K = true) : ExcC K (He.ga K x) := by
  obtain ⟨h1, h⟩ := Bool.and_eq_true_iff.mp h
  obtain ⟨h2, h⟩ := Bool.and_eq_true_iff.mp h
  obtain ⟨h3, h⟩ := Bool.and_eq_true_iff.mp h
  obtain ⟨h4, h5⟩ := Bool.and_eq_true_iff.mp h
  have t := xfB_ok h1
  exact ⟨t.ga, t.gg, t.exC, t.hdC, He.eqO_ok h2, He.eqO_ok h3, of_decide_eq_true h4, of_decide_eq_true h5⟩
/-- `except D` asked of an error of class C -/
def exmF (C D : Str) (b : Bool) : PySem.W.Frag → Bool := fun K => decide (PySem.W.exmOne K (.ref (He.ga K C)) (.ref (He.ga K D)) = some b)
theorem exmF_ok {C D : Str} {b : Bool} {K : PySem.W.Frag} (h : exmF C D b K = true) : PySem.W.exmOne K (.ref (He.ga K C)) (.ref (He.ga K D)) = some b := of_decide_eq_true h
/-- isinstance against a built-in class -/
def kitTF (C : Str) (T : String) (b : Bool) : PySem.W.Frag → Bool := fun K => decide (PySem.W.kitOne K (.ref (He.ga K C)) (.type T) = some b)
theorem kitTF_ok {C : Str} {T : String} {b : Bool} {K : PySem.W.Frag} (h : kitTF C T b K = true) : PySem.W.kitOne K (.ref (He.ga K C)) (.type T) = some b := of_decide_eq_true h
/-! ### callees that may raise -/
section
variable (P : Program) (w : World) (K : PySem.W.Frag) (mg : Str → Option Value) (base : Heap)
structure CalX (k : Nat) (x : Str) (ps : List Str) (sp : Sp) : Prop where
  ex : ∃ f fd, FnOk P w K mg base (L2.CX P w) k f fd ps sp ∧ mg x = some (.ref f) ∧ PySem.W.keepIn K (.ref f) = true ∧ Binds K fd ps []
structure MetX (C : Addr) (k : Nat) (m : Str) (ps : List Str) (sp : Sp) : Prop where
  ex : ∃ f fd, Meth K C m f ∧ FnOk P w K mg base (L2.CX P w) k f fd ps sp ∧ Binds K fd ps []
end
/-- a wish that nothing is let out -/
def W0 : WX := fun _ _ _ _ => False
theorem takesN {X : Cx} : Takes X W0 := takes0
section
variable {X : Cx} {k : Nat} {x : Str} {ps : List Str} {sp : Sp} {e : Expr} {es : List Expr} {t : TA} {pos p : Pos} {W : WX}
theorem pe_calX (c : CalX X.prog X.w X.K X.mg X.base k x ps sp) (hr : Room k X.A) (hg : Gl X x) (tk : Takes X W) (ha : PA X (e :: es) t)
    (hs : starEach (e :: es) X.env = (false, eval e X.env) :: starEach es X.env := by rfl) (hp : (backTo pos (starEach es X.env)).any (·.1) = false := by rfl)
    (hdb : (x == ("__debug__" : Str)) = false := by decide) : PE X (.Call (.Name x p) (e :: es) [] pos) (tCallS sp (WE W) t) := by
  obtain ⟨f, fd, F, g, kp, b⟩ := c.ex
  exact pe_callS F hr hg g kp b (fun σ => passAt tk σ) ha hdb hs hp
/-- X() -/
theorem pmk_own0 {C : Addr} (c : Exc0 X.K X.mg x C) (hg : Gl X x) (hdb : (x == ("__debug__" : Str)) = false := by decide) :
    PMk X (.Call (.Name x p) [] [] pos) (fun _ H Q => Q (.ref C) none H) := by
  intro pins s σ H Q I h
  refine wpAny_Call_Name_kw (ld_glob I hg c.gC ?_ hdb)
  refine PySem.W.callWith_K0 I.kIn c.kC ?_
  show wpAny _ _ (call (.ref C) []) _ _ _
  obtain ⟨bm, N, nm, qn, bs, hdct, sn, sub, ab, col, dd, k0, k1, k2, k3, k5, mN, hC, hN, hni, T⟩ := exc_obj I.kIn c.xC
  refine wpAny_call_exc_subT PySem.F.excBase_ValueError T hC hN hni (fun h' e hm => ?_) (Nat.zero_le _)
  exact mk_of I hm (raises_own c.bC c.tC) h (I.hok.gone hm.new)
/-- raise X() -/
def tRaise0 (C : Addr) (W : WX) : TS := fun _ σ H => W (.ref C) none σ H
theorem ps_raise0 {C : Addr} {pos2 : Pos} (hc : X.calm = true) (tk : Takes X W) (c : Exc0 X.K X.mg x C) (hg : Gl X x) (hdb : (x == ("__debug__" : Str)) = false := by decide) :
    PS X (.Raise (some (.Call (.Name x p) [] [] pos)) none pos2) (tRaise0 C W) := ps_raise hc tk (pmk_own0 c hg hdb)
/-- the same reading in another word -/
theorem psEq {b : List Stmt} {u v : TS} (h : PSs X b u) (e : v = u := by rfl) : PSs X b v := by
  rw [e]
  exact h
end
section
variable {σ : L2.St} {H : Hp} {Q : VK} {D : Ends} {W : WX} {sp : Sp} {E : L2.St → XK} {t : TA} {C : Addr} {K : PySem.W.Frag}
theorem x_callS (q : t σ H fun vs H1 => sp vs H1 Q (E σ)) : tCallS sp E t σ H Q := q
theorem x_raise0 (q : W (.ref C) none σ H) : tRaise0 C W D σ H := q
end
/-! ### try .. except X as n -/
/-- its reading -/
def tTry (K : PySem.W.Frag) (c : Value) (i : Nat) (tb : WX → TS) (ts : Addr → Value → Option Addr → TS) (Wout : WX) : TS := fun D σ H => tb (wAs K c i ts Wout D) D σ H
/-- the ends of a suite whose name goes -/
def sEnds (i : Nat) (D : Ends) : Ends := { nx := fun σ' H' => D.nx (σ'.set i none) H', rt := D.rt, bk := fun σ' H' => D.bk (σ'.set i none) H', ct := fun σ' H' => D.ct (σ'.set i none) H' }
section
variable {σ : L2.St} {H : Hp} {D : Ends} {K : PySem.W.Frag} {c cls : Value} {d : Option Addr} {i : Nat} {tb : WX → TS} {ts : Addr → Value → Option Addr → TS} {Wout : WX}
theorem x_try (q : tb (wAs K c i ts Wout D) D σ H) : tTry K c i tb ts Wout D σ H := q
/-- caught -/
theorem x_caught (e : PySem.W.exmOne K cls c = some true) (q : ∀ a, H a = none → ts a cls d (sEnds i D) (σ.set i (some (.ref a))) H) : wAs K c i ts Wout D cls d σ H :=
  ⟨true, e, fun _ a ha => q a ha, fun z => nomatch z⟩
theorem x_caughtE (e : PySem.W.exmOne K cls c = some true) (q : ∀ a, H a = none → ts a cls d (sEnds i D) (σ.set i (some (.ref a))) H) : WE (wAs K c i ts Wout D) σ cls d H := x_caught e q
end
section
variable {X : Cx} {x n : Str} {c : Value} {i : Nat} {body suite : List Stmt} {b₀ : Stmt} {np pos pos' : Pos} {tb : WX → TS} {ts : Addr → Value → Option Addr → TS} {Wout : WX}
theorem ps_tryAs (hN : X.N.Nodup) (hs : X.stack = X.env :: X.outer) (hf : X.env.frame = some X.env.locals) (hi : X.N[i]? = some n) (hln : X.env.kindOf n = some .local) (hg : Gl X x) (hm : X.mg x = some c) (tk : Takes X Wout)
    (hb : ∀ (W : WX) (pn : List (Addr × Obj)) (xe : Value → Shared → Prop), Takes (X.tr pn xe) W → PassesOwn (model X.prog X.w) X.A X.env xe → PSs (X.tr pn xe) body (tb W))
    (hsu : ∀ (a : Addr) (oe : Obj) (cls : Value) (d : Option Addr) (pn : List (Addr × Obj)), Zc cls d oe → (∃ vs, oe.data = .fields vs) → PSs (X.suite a ((a, oe) :: pn)) (b₀ :: suite) (ts a cls d)) (hdb : (x == ("__debug__" : Str)) = false := by decide) :
    PS X (.Try body [.ExceptHandler (some (.Name x np)) (some n) (b₀ :: suite) pos'] [] [] pos) (tTry X.K c i tb ts Wout) :=
  ps_try_as hs hf hN hi hln ⟨hg, hdb, .inl hm⟩ tk hb hsu
end
/-! ### isinstance(e, C), e the caught one -/
def rIsX (K : PySem.W.Frag) (a : Addr) (cls : Value) (d : Option Addr) : List V → Hp → VK → Prop := fun xs H Q => ∃ D, cls = .ref D ∧ d = none ∧ ExcC K D ∧ rIsE K D a xs H Q
theorem call_isX {X : Cx} {a : Addr} {cls : Value} {d : Option Addr} {oe : Obj} {pn : List (Addr × Obj)} (hz : Zc cls d oe) (hf : ∃ vs, oe.data = .fields vs) : CallR (X.suite a ((a, oe) :: pn)) (.builtin "isinstance") (rIsX X.K a cls d) := by
  intro pins s σ H xs us Q I r h
  obtain ⟨D, rfl, rfl, hC, h⟩ := h
  exact call_isE hC hz hf pins s σ H xs us Q I r h
section
variable {H : Hp} {Q : VK} {K : PySem.W.Frag} {a D C : Addr} {b : Bool}
theorem x_isX (hC : ExcC K D) (e : PySem.W.kitOne K (.ref D) (.ref C) = some b) (q : Q (.bl b) H) : rIsX K a (.ref D) none [.ref a, .ref C] H Q :=
  ⟨D, rfl, rfl, hC, _, _, _, rfl, fun u r => r, e, q⟩
theorem x_isXT {T : String} (hC : ExcC K D) (e : PySem.W.kitOne K (.ref D) (.type T) = some b) (q : Q (.bl b) H) : rIsX K a (.ref D) none [.ref a, .ty T] H Q :=
  ⟨D, rfl, rfl, hC, _, _, _, rfl, fun u r => r, e, q⟩
end
end Ox

/-! Own layer: own exceptions whose __init__ says super().__init__('..') and lays one field. -/
namespace PySem
namespace SupX
open PySem.W PySem.Calls PyProof.Rows PySem.HandSPX
def iA (y : Str) (p1 p2 : Pos) : Arguments := { posonlyargs := [], args := [{ arg := "self", annotation := none, pos := p1 }, { arg := y, annotation := none, pos := p2 }], vararg := none, kwonlyargs := [], kw_defaults := [], kwarg := none, defaults := [] }
def iB (y txt : Str) (q1 q2 q3 q4 q5 q6 q7 q8 q9 q10 : Pos) : List Stmt :=
  [.Expr (.Call (.Attribute (.Call (.Name "super" q1) [] [] q2) "__init__" q3) [.Constant (.str txt) 0 q4] [] q5) q6, .Assign [.Attribute (.Name "self" q7) y q8] (.Name y q9) q10]
def iS (y : Str) : Scope := { kind := .function, names := [(PySem.Str.ofString "self", .local), (y, .local), (PySem.Str.ofString "__class__", .free), (PySem.Str.ofString "super", .globalImplicit)], isGenerator := false, isCoroutine := false, more := [] }
/-- the fields that the text has -/
def Fld (y : Str) : Prop := y = "part" ∨ y = "name" ∨ y = "index" ∨ y = "most" ∨ y = "line"
structure SupTxt (P : Program) (K : Frag) (mg : Str → Option Value) (x y : Str) (C fI : Addr) : Prop where
  fld : Fld y
  gC : mg x = some (.ref C)
  noS : mg "super" = none
  cls : ∃ nm q N bs bm sn sub ab col dd k0 k1 k2 k3 k5, K.lookup C = some (excClassObj nm q C N bs bm true sn sub ab col dd k0 k1 k2 k3 k5 "ValueError.__new__") ∧ refsVE bm = true
  sa : findIn K (.ref C) "__setattr__" = some (some (.builtin "object.__setattr__"))
  ga : findIn K (.ref C) "__getattribute__" = some (some (.builtin "BaseException.__getattribute__"))
  gg : findIn K (.ref C) "__getattr__" = some none
  noN : findIn K (.ref C) y = some none
  iC : findIn K (.ref C) "__init__" = some (some (.ref fI))
  tC : typeIn K (.ref fI) = some (.type "function")
  kC : keepIn K (.ref C) = true
  exC : subIn K (.ref C) (.type "BaseException") = some true
  veC : subIn K (.ref C) (.type "ValueError") = some true
  mrC : mroIn K C (.ref C) = some true
  tyC : typeIn K (.ref C) = some (.type "type")
  hdC : hasDictIn K C = true
  opq : nsIn K cStatics "thirdparty.any" = some none
  sup : ks_superIn K C C "__init__" = some (some (.builtin "ValueError.__init__"))
  top : (P.main.scope.names.lookup ("super" : Str)).isSome = false
  fn : ∃ (oc : Value) (od : Option Addr) (kV doc pm : Value) (an : Option Addr) (cda : Addr) (ct : Value) (osl : Array (Option Value)) (qual txt : Str) (cc : Addr) (p1 p2 q1 q2 q3 q4 q5 q6 q7 q8 q9 q10 : Pos),
    K.lookup fI = some ⟨oc, od, .func (ksFn "__init__" qual (iA y p1 p2) (iB y txt q1 q2 q3 q4 q5 q6 q7 q8 q9 q10) (iS y) .none kV doc pm an (.ref cda) ct cc), osl⟩ ∧ codeIn K (.ref cda) qual = true ∧
    (∃ (ccl : Value) (cdd : Option Addr) (vs : Array Value) (ccs : Array (Option Value)) (file : Str) (tf : Tok), K.lookup cda = some ⟨ccl, cdd, .fields vs, ccs⟩ ∧ vs[2]? = some (.str file tf) ∧ ((P.main.file : Str) == file) = true) ∧
    (∃ (cl : Value) (cld : Option Addr) (csl : Array (Option Value)), K.lookup cc = some ⟨cl, cld, .cell (some (.ref C)), csl⟩) ∧ (q3.endLine == q5.line) = true
theorem one_size (v : Value) : [v].length ≤ sizeLine := by
  rw [sizeLine_eq]
  exact (by decide : 1 ≤ 16777216)
structure InitEnd (h h' : Heap) (x C dx t1 : Addr) (y : Str) (v : Value) : Prop where
  keep : ∀ b o, b ≠ x → h.get? b = some o → h'.get? b = some o
  obj : h'.get? x = some { cls := .ref C, dict := some dx, data := .fields #[.ref t1, .none, .none, .none, .bool false, .none] }
  dbig : h.objs.size ≤ dx
  dne : dx ≠ x
  ns : h'.Ns1 dx (fun z => if z = y then some v else none)
structure OwnMade (h h' : Heap) (e C d : Addr) (y : Str) (v : Value) : Prop where
  keep : ∀ b o, h.get? b = some o → h'.get? b = some o
  new : h.objs.size ≤ e
  obj : ∃ oe vs, h'.get? e = some oe ∧ oe.cls = .ref C ∧ oe.dict = some d ∧ oe.data = .fields vs ∧ vs[1]? = some .none
  dbig : h.objs.size ≤ d
  dne : d ≠ e
  ns : h'.Ns1 d (fun z => if z = y then some v else none)
theorem ld {M : Model} {A : Around} {E : Value → Shared → Prop} {s : Shared} {env : Env} {m : Str → Option Value} {x : Str} {pos : Pos} {v : Value} {Q : Value → Shared → Prop} (hn : s.heap.Ns env.locals m) (hv : m x = some v) (h : Q v s)
    (hk : env.scope.kind = .function := by rfl) (hl : env.kindOf x = some .local := by rfl) (hd : (x == ("__debug__" : Str)) = false := by decide) :
    wpAny M A (eval (.Name x pos) env) Q E s := wpAny_Name (wpAny_loadName_local hk hl hn hv h) hd
theorem call_eq {o a : Expr} {name : Str} {q3 q5 : Pos} {env : Env} (hline : (q3.endLine == q5.line) = true) (ha : starEach [a] env = [(false, eval a env)]) : eval (.Call (.Attribute o name q3) [a] [] q5) env = (do
      let ov ← attributeBase o name env (eval o env)
      standAt q3.atName
      let (f, first) ← holding [ov] (getMethod ov name (do return (← importBound o env).getD true))
      callWith q5 f first (backTo q5 (starEach [a] env)) []) := by
  show (do
    let ov ← attributeBase o name env (eval o env)
    standAt q3.atName
    methodCall o name q3 q5 env ov 1 (backTo q5 (starEach [a] env)) []) = _
  unfold methodCall methodCallPos calleeOf
  have hf : methodCallForm 1 (backTo q5 (starEach [a] env)) [] = true := by rw [ha]; rfl
  rw [hf, hline]
  rfl
section
variable {prog : Program} {w : World} {A : Around} {E : Value → Shared → Prop}
/-- the wrapper called: ValueError.__init__ of the object anew -/
theorem call_mw {h : Heap} {g : Array GenState} {d : Drawn} {t : Nat} {os : OsState} {nm q : Str} {C N : Addr} {bs bm : List Value} {hdct : Bool} {sn : List Str} {sub : List Value} {ab : Bool} {col : Option Bool} {dd : Option Addr} {k0 k1 k2 k3 k5 : Option Value}
    {u e t0 : Addr} {rest : List Value} {Q : Value → Shared → Prop}
    (hC : h.get? C = some (excClassObj nm q C N bs bm hdct sn sub ab col dd k0 k1 k2 k3 k5 "ValueError.__new__")) (he : h.get? e = some (excO C t0)) (hu : h.get? u = some (kxs_mw "ValueError.__init__" e)) (hrest : rest.length ≤ sizeLine)
    (hq : ∀ h' t1, (∀ b o, b ≠ e → h.get? b = some o → h'.get? b = some o) → h'.get? e = some (excO C t1) → Q .none ⟨h', g, d, t, os⟩) :
    wpAny (model prog w) A (call (.ref u) rest) Q E ⟨h, g, d, t, os⟩ := by
  refine wpAny_call (codeAny_of_tree ?_)
  show wpAny _ A.in1 (callAny (.ref u) ⟨rest, []⟩) _ _ _
  simp only [callAny]
  refine wpAny_bind (wpAny_load hu ?_)
  simp only [kxs_mw, show (Value.type "method-wrapper" == Value.type "method" || Value.type "method-wrapper" == Value.type "builtin_function_or_method" || Value.type "method-wrapper" == Value.type "method-wrapper") = true by decide, if_true]
  refine W.KFB.if_so (by decide) ?_
  refine wpAny_bind (check_bound_init F.excBase_ValueError.toExcCallFacts hC he rfl ?_)
  refine wpAny_bind (wpAny_pure (wpAny_pure ?_))
  refine ⟨plainId_quiet F.excBase_ValueError.init.plain _, codeAny_builtin F.excBase_ValueError.initEntry ?_⟩
  rw [Around.under_plainId F.excBase_ValueError.init.plain _]
  wp_walk
  refine hq _ h.objs.size (fun b o hb ho => ?_) ?_
  · rw [Heap.get?_update_other _ _ (Ne.symm hb)]
    exact Heap.get?_push_of_some _ ho
  · rw [Heap.get?_update_self _ (Heap.get?_push_of_some _ he) rfl]
    rfl
end
section
variable {prog : Program} {w : World} {A : Around} {E : Value → Shared → Prop} {R : Result → Shared → Prop} {s : Shared} {K : Frag} {mg : Str → Option Value} {x y : Str} {C fI : Addr}
theorem sup_init (T : SupTxt prog K mg x y C fI) {e t0 : Addr} {v : Value} (X : K.In s.heap) (hlim : s.heap.NoLimit) (hg : s.heap.Ns mainGlobals mg) (hb : ∃ mb, s.heap.Ns builtinsNs mb ∧ ∀ z : Str, z ≠ "__name__" → mb z = bootBuiltins z)
    (hx : s.heap.get? e = some (excO C t0)) (hnx : K.lookup e = none) (hroom : A.depth < recursionLimit)
    (hq : ∀ h' tk dx t1, InitEnd s.heap h' e C dx t1 y v → R (.ok (.ret .none)) { s with heap := h', toks := tk }) :
    codeAny (model prog w) A (.call (.ref fI) ⟨[.ref e, v], []⟩) R s := by
  obtain ⟨oc, od, kV, doc, pm, an, cda, ct, osl, qual, txt, cc, p1, p2, q1, q2, q3, q4, q5, q6, q7, q8, q9, q10, ho, hcd, ⟨ccl, cdd, vs, ccs, file, tf, hcda, hvs, hfile⟩, ⟨cl, cld, csl, hcc⟩, hline⟩ := T.fn
  obtain ⟨nm, q, N, bs, bm, sn, sub, ab, col, dd, k0, k1, k2, k3, k5, hC, hbm⟩ := T.cls
  have hcl : clsIn K C = some { name := nm, bases := bs, mro := .ref C :: bm, ns := N, qualname := q, hasDict := true, slotNames := sn, subclasses := sub, abstract := ab, collection := col, hasDel := false } := by unfold clsIn; rw [hC] <;> rfl
  have hsup := T.sup
  unfold ks_superIn at hsup
  rw [hcl] at hsup
  have noN := T.noN
  have fld := T.fld
  have sa := T.sa
  have veC := T.veC
  have mrC := T.mrC
  have opq := T.opq
  have noS := T.noS
  have top := T.top
  clear T
  rcases fld with rfl | rfl | rfl | rfl | rfl
  all_goals
    refine ks_codeAny_call_defAt (fd := ksFn "__init__" qual (iA _ p1 p2) (iB _ txt q1 q2 q3 q4 q5 q6 q7 q8 q9 q10) (iS _) .none kV doc pm an (.ref cda) ct cc) (body := iB _ txt q1 q2 q3 q4 q5 q6 q7 q8 q9 q10) (binds := [("self", .ref e), (_, v)]) hroom (X _ _ ho) rfl hlim (codeRec_of X hcd) rfl
      (BindsTo.of_eq (by first | rfl | with_unfolding_all rfl)) (by
        intro z hz
        have hz' : z ∈ (iS _).names := hz
        simp only [iS, List.mem_cons, List.not_mem_nil, or_false] at hz'
        rcases hz' with rfl | rfl | rfl | rfl <;> decide)
      (by
        intro z hz
        simp only [List.mem_cons, List.not_mem_nil, or_false] at hz
        rcases hz with rfl | rfl <;> first | rfl | decide | decide +kernel) (fun h₁ hn k => ?_) rfl rfl rfl
    obtain ⟨hp, g, d, t, os⟩ := s
    have X₁ : K.In h₁ := X.keeps k
    have hx₁ := k _ _ hx
    have hL : hp.objs.size ≠ e := Nat.ne_of_gt (Heap.lt_size hx)
    refine ks_wpAt_execs_cons (ks_wpAt_Expr_any (ks_wpAt_MethodCall ?_ (call_eq hline rfl)))
    refine ks_wpAt_super_base (f := fI) (cc := cda) (by first | rfl | with_unfolding_all rfl) (by first | rfl | with_unfolding_all rfl) (by decide) rfl (X₁ _ _ ho) rfl (by rfl) rfl (X₁ _ _ hcda) rfl hvs hfile top ?_
    obtain ⟨mb, hmb, hmbv⟩ := hb
    refine ks_loadName_global rfl (by first | rfl | with_unfolding_all rfl) (loadGlobal_builtin (hg.keeps k) noS (hmb.keeps k) ((hmbv _ (by decide)).trans (by first | rfl | decide +kernel | kernel_rfl)) ⟨rfl, ?_⟩)
    refine wpAny_loadName_free rfl (by first | rfl | with_unfolding_all rfl) (by first | rfl | with_unfolding_all rfl) ⟨_, X₁ _ _ hcc, rfl⟩ ?_
    refine wpAny_loadName_local rfl (by first | rfl | with_unfolding_all rfl) hn (v := .ref e) (by first | rfl | with_unfolding_all rfl | kernel_rfl) ?_
    refine ks_wpAny_isType_cls (X₁ _ _ hC) rfl ⟨rfl, ?_⟩
    refine ks_wpAny_call_super (X₁ _ _ hC) rfl hx₁ rfl (fun c z => by cases z) (looks_mroIn X₁ mrC) (fun h₂ hso k₂ => ?_)
    have X₂ : K.In h₂ := X₁.keeps k₂
    have hx₂ := k₂ _ _ hx₁
    have hneC : e ≠ C := fun z => by rw [z, hC] at hnx; cases hnx
    have I₂ : InstAt h₂ e (excO C t0) C none := ⟨hx₂, rfl, rfl, trivial⟩
    refine kxs_getMethod kxs_ValueError hso (looks_opaque X₂ opq) (l₀ := .ref C :: bm) (fun A Q E s k q => wpAny_bind ((looks_clsIn X₂ hcl) A _ E s k (wpAny_pure q))) rfl X₂ hsup (I₂.type.andThen (looks_subIn X₂ veC)) hneC (by decide) ?_
    refine kxs_callWith (i := "ValueError.__init__") (x := e) (by rfl) (evalArgs_plain (spliced_cons (wpAny_Constant_str (k := 0) (pos := q4) (spliced_nil ⟨Heap.get?_push_at rfl rfl, ?_⟩))))
    have up : ∀ b o, h₂.get? b = some o → (h₂.push (kxs_mw "ValueError.__init__" e)).get? b = some o := fun b o z => Heap.get?_push_of_some _ z
    refine call_mw (up _ _ (X₂ _ _ hC)) (up _ _ hx₂) (Heap.get?_push_at rfl rfl) (one_size _) (fun h₃ t1 k₃ hx₃ => ?_)
    have kk : ∀ b o, b ≠ e → h₁.get? b = some o → h₃.get? b = some o := fun b o z q => k₃ b o z (up _ _ (k₂ _ _ q))
    have X₃ : K.In h₃ := fun a o q => kk a o (fun z => by rw [z, hnx] at q; cases q) (X₁ a o q)
    obtain ⟨oL, es, ep, hoL, rL⟩ := hn
    have hn₃ : h₃.Ns hp.objs.size _ := ⟨oL, es, ep, kk _ _ hL hoL, rL⟩
    show wpAt _ _ _ (execs _ _) _ _ _
    refine wpAt_of_wpAny ?_
    refine wpAny_execs_cons (plainObj_wpAny_Assign_Attribute ?_)
    refine ld (v := v) hn₃ (by first | rfl | with_unfolding_all rfl | kernel_rfl) (ld (v := .ref e) hn₃ (by first | rfl | with_unfolding_all rfl | kernel_rfl) ?_)
    refine set_plain X₃ (ox := excO C t1) (od := none) ⟨hx₃, rfl, rfl, trivial⟩ sa ?_
    refine exc_osa X₃ hx₃ hcl (show refsVE (.ref C :: bm) = true from hbm) rfl noN (fun h₄ tk₄ dx k₄ dn dne hx₄ hn₄ => ?_)
    refine wpAny_execs_nil (hq h₄ tk₄ dx t1 ⟨fun b o hb z => k₄ b o hb (kk b o hb (k b o z)), hx₄, ?_, dne, hn₄⟩)
    have z := Heap.lt_size (kk _ _ hL hoL)
    exact Nat.le_of_lt (Nat.lt_of_lt_of_le z dn)
theorem sup_made (T : SupTxt prog K mg x y C fI) {v : Value} (X : K.In s.heap) (hlim : s.heap.NoLimit) (hg : s.heap.Ns mainGlobals mg) (hb : ∃ mb, s.heap.Ns builtinsNs mb ∧ ∀ z : Str, z ≠ "__name__" → mb z = bootBuiltins z) (hroom : A.depth + 1 < recursionLimit)
    (hq : ∀ h' tk e d, OwnMade s.heap h' e C d y v → R (.ok (.ret (.ref e))) { s with heap := h', toks := tk }) :
    codeAny (model prog w) A (.call (.ref C) ⟨[v], []⟩) R s := by
  obtain ⟨nm, q, N, bs, bm, sn, sub, ab, col, dd, k0, k1, k2, k3, k5, hC, hbm⟩ := T.cls
  obtain ⟨hp, g, dr, tk, os⟩ := s
  have k : ∀ b o, hp.get? b = some o → ((hp.push (kdv_tup [v])).push (excO C hp.objs.size)).get? b = some o := fun b o e => Heap.get?_push_of_some _ (Heap.get?_push_of_some _ e)
  have hget : ((hp.push (kdv_tup [v])).push (excO C hp.objs.size)).get? (hp.objs.size + 1) = some (excO C hp.objs.size) := by heap_get
  have hnx : K.lookup (hp.objs.size + 1) = none := by
    cases e : K.lookup (hp.objs.size + 1) with
    | none => rfl
    | some o =>
      have z : hp.get? (hp.objs.size + 1) = some o := X _ _ e
      exact absurd (Nat.lt_of_succ_lt (Heap.lt_size z)) (Nat.lt_irrefl _)
  refine call_own F.excBase_ValueError (fun X => refsVE_contains X bm hbm) (X _ _ hC) (looks_findIn X T.iC) (fun self => bind_fn X self T.tC) (one_size v) ?_
  obtain ⟨mb, hmb, hmv⟩ := hb
  refine sup_init (s := ⟨(hp.push (kdv_tup [v])).push (excO C hp.objs.size), g, dr, tk, os⟩) T (X.keeps k) (hlim.keeps k) (hg.keeps k) ⟨mb, hmb.keeps k, hmv⟩ hget hnx ?_ fun h' tk' dx t1 ⟨k', hx, dn, dne, hns⟩ => ?_
  · show A.depth + 1 < recursionLimit
    exact hroom
  · have old : ∀ b o, hp.get? b = some o → h'.get? b = some o := fun b o e => k' b o (Nat.ne_of_lt (Nat.lt_succ_of_lt (Heap.lt_size e))) (k b o e)
    have z : hp.objs.size + 1 + 1 ≤ dx := by
      first
        | (simpa only [Heap.size_push] using dn)
        | exact dn
        | (have q := dn; rw [Heap.size_push, Heap.size_push] at q; exact q)
    exact ⟨rfl, hq h' tk' (hp.objs.size + 1) dx ⟨old, Nat.le_succ _, ⟨_, _, hx, rfl, rfl, rfl, rfl⟩, Nat.le_trans (Nat.le_trans (Nat.le_succ _) (Nat.le_succ _)) z, dne, hns⟩⟩
end
end SupX
end PySem
namespace Ox
open PySem PySem.Spec PyProof.Rows L2
theorem relO_one {y : Str} {v : V} {v' : Value} (r : RelV v v') (f : Str) : RelO (List.lookup f [(y, v)]) (if f = y then some v' else none) := by
  by_cases hw : f = y
  · subst hw
    rw [if_pos rfl]
    have q : List.lookup f [(f, v)] = some v := by simp [List.lookup]
    rw [q]
    exact r
  · rw [if_neg hw]
    have qw : (f == y) = false := by simpa using hw
    have q2 : List.lookup f [(y, v)] = none := by simp [List.lookup, qw]
    rw [q2]
    trivial
section
variable {X : Cx} {x y : Str} {C fI : Addr}
/-- the class x, its own field y -/
structure ExcF (P : Program) (K : PySem.W.Frag) (mg : Str → Option Value) (x y : Str) (C : Addr) : Prop where
  ex : ∃ fI, PySem.SupX.SupTxt P K mg x y C fI
/-- X(e) -/
def tMkS (C : Addr) (y : Str) (ta : TA) : L2.St → Hp → XK → Prop := fun σ H Q => ta σ H fun vs H1 => ∃ v, vs = [v] ∧ ∀ d, H1 d = none → Q (.ref C) (some d) (upd H1 d (.xd [(y, v)]))
theorem pmk_sup {a : Expr} {ta : TA} {p pos : Pos} {k : Nat} (T : ExcF X.prog X.K X.mg x y C) (hr : Room k X.A) (ha : PA X [a] ta) (hg : Gl X x)
    (hdb : (x == ("__debug__" : Str)) = false := by decide) (he : starEach (a :: []) X.env = (false, eval a X.env) :: starEach [] X.env := by rfl) (hpl : (backTo pos (starEach [] X.env)).any (·.1) = false := by rfl) :
    PMk X (.Call (.Name x p) [a] [] pos) (tMkS C y ta) := by
  obtain ⟨fI, T⟩ := T.ex
  intro pins s σ H Q I h
  refine wpAny_Call_Name_kw (ld_glob I hg T.gC ?_ hdb)
  refine PySem.W.callWith_K (h₀ := X.base) I.ok.mod.kin T.kC (thn (ha.run pos pins s σ H _ I h) fun us s1 hh => ?_) he hpl
  obtain ⟨vs, H1, I1, r1, v, ev, q1⟩ := hh
  subst ev
  refine ⟨I1.kIn, ?_⟩
  cases r1 with
  | cons rv rn =>
    rename_i v' us'
    cases rn
    show wpAny _ _ (call (.ref C) [v']) _ _ _
    have hlim := I1.nolimit
    obtain ⟨mb, hmb, hmv⟩ := I1.mod.blt
    have hbl : ∃ mb, s1.heap.Ns builtinsNs mb ∧ ∀ z : Str, z ≠ "__name__" → mb z = bootBuiltins z := ⟨mb, hmb.keeps I1.bk, hmv⟩
    have hgl : s1.heap.Ns mainGlobals X.mg := I1.mod.glob.keeps I1.bk
    obtain ⟨hp, g, dr, tk, os⟩ := s1
    refine wpAny_call (PySem.SupX.sup_made T I1.kIn hlim hgl hbl (by have := hr.dp; omega) fun h' tk' e d M => ?_)
    show MkP X pins σ Q (.ref e) ⟨h', g, dr, tk', os⟩
    obtain ⟨oe, fv, hoe, hc, hd, hdat, h1⟩ := M.obj
    have hns := M.ns
    obtain ⟨G', g1, g2⟩ := restrict h' fun b => decide (b ≠ e)
    have gk : ∀ b, b ≠ e → G'.get? b = h'.get? b := fun b hb => g1 b (decide_eq_true hb)
    have ge : G'.get? e = none := g2 e (by simp)
    have old : ∀ b o, hp.get? b = some o → G'.get? b = some o := fun b o q => (gk b (Nat.ne_of_lt (Nat.lt_of_lt_of_le (Heap.lt_size q) M.new))).trans (M.keep b o q)
    have ob : ObjOk X.prog X.w (upd H1 d (.xd [(y, v)])) G' d (.xd [(y, v)]) :=
      ⟨_, hns.at (fun o q => (gk d M.dne).trans q), fun f => relO_one rv f⟩
    have J : Inv X pins σ (upd H1 d (.xd [(y, v)])) ⟨G', g, dr, tk', os⟩ := I1.laid (t' := tk') old M.dbig ob
    refine ⟨e, oe, fv, ⟨G', g, dr, tk', os⟩, _, .ref C, some d, rfl, J, fun b o q => ?_, ge, hoe, ⟨hc, hd⟩, hdat, h1, ?_, rfl, I1.bare, raises_own T.exC T.tyC, q1 d (I1.hok.fresh M.dbig)⟩
    · by_cases hb : b = e
      · have q' : G'.get? b = some o := q
        rw [hb, ge] at q'; cases q'
      · exact (gk b hb).symm.trans q
    · rw [upd_ne (Ne.symm M.dne)]
      exact I1.hok.fresh M.new
/-- raise X(e) -/
def tRaiseS (C : Addr) (y : Str) (W : WX) (ta : TA) : TS := fun _ σ H => tMkS C y ta σ H fun cls d H' => W cls d σ H'
theorem ps_raiseS {a : Expr} {ta : TA} {W : WX} {p pos pos2 : Pos} {k : Nat} (hc : X.calm = true) (tk : Takes X W) (T : ExcF X.prog X.K X.mg x y C) (hr : Room k X.A) (hg : Gl X x) (ha : PA X [a] ta) (hdb : (x == ("__debug__" : Str)) = false := by decide)
    (he : starEach (a :: []) X.env = (false, eval a X.env) :: starEach [] X.env := by rfl) (hpl : (backTo pos (starEach [] X.env)).any (·.1) = false := by rfl) :
    PS X (.Raise (some (.Call (.Name x p) [a] [] pos)) none pos2) (tRaiseS C y W ta) := ps_raise hc tk (pmk_sup T hr ha hg hdb he hpl)
/-- the exceptions that a read of the field y fits: its class told of the written part -/
structure ExcG (K : PySem.W.Frag) (C : Addr) (y : Str) : Prop where
  ga : PySem.W.findIn K (.ref C) "__getattribute__" = some (some (.builtin "BaseException.__getattribute__"))
  gg : PySem.W.findIn K (.ref C) "__getattr__" = some none
  exC : PySem.W.subIn K (.ref C) (.type "BaseException") = some true
  hdC : PySem.W.hasDictIn K C = true
  noN : PySem.W.findIn K (.ref C) y = some none
/-- e.y, e the exception that the suite holds (at a; its class cls, its dict d) -/
def tByS (K : PySem.W.Frag) (y : Str) (a : Addr) (cls : Value) (d : Option Addr) (te : TE) : TE := fun σ H Q => te σ H fun x H1 => x = .ref a ∧ ∃ (C dd : Addr) (v : V), cls = .ref C ∧ ExcG K C y ∧ d = some dd ∧ H1 dd = some (.xd [(y, v)]) ∧ Q v H1
theorem pe_byS {a : Addr} {oe : Obj} {cls : Value} {d : Option Addr} {pn : List (Addr × Obj)} {e : Expr} {te : TE} {pos : Pos} (hz : Zc cls d oe) (hf : ∃ vs, oe.data = .fields vs) (he : PE (X.suite a ((a, oe) :: pn)) e te)
    (hb : attributeBase e y X.env (eval e X.env) = eval e X.env := by rfl) :
    PE (X.suite a ((a, oe) :: pn)) (.Attribute e y pos) (tByS X.K y a cls d te) := by
  refine ⟨fun pins s σ H Q I h => ?_⟩
  refine attr_of hb (thn (he.run pins s σ H _ I h) fun u s1 hh => ?_)
  obtain ⟨x, H1, I1, rx, ex, C, dd, v, ec, T, ed, ea, q⟩ := hh
  subst ex
  obtain rfl : u = Value.ref a := rx
  subst ec
  subst ed
  obtain ⟨ha, _⟩ := I1.pin (a, oe) (List.mem_append_left _ List.mem_cons_self)
  obtain ⟨vs, hd⟩ := hf
  have hx : ObjOk X.prog X.w H1 s1.heap dd (.xd [(y, v)]) := I1.hok dd _ ea
  obtain ⟨mA, hns, hr⟩ := hx
  obtain ⟨od, ho, hl⟩ := lookIn_ns hns
  have l : List.lookup y [(y, v)] = some v := by simp [List.lookup]
  obtain ⟨u, hu, ru⟩ := RelO.some_of (v := v) (o := mA y) (by rw [← l]; exact hr y)
  have J : PySem.W.InstAt s1.heap a oe C (some od) := ⟨ha, hz.1, by unfold PySem.W.notCls; rw [hd] <;> rfl, by rw [hz.2]; exact ho⟩
  exact HandSPX.exc_get I1.kIn J T.ga T.gg T.exC (PySem.W.findObj_own T.hdC T.noN rfl (by rw [hl, hu])) (handed_of ru) ⟨v, H1, I1.tok _, ru, q⟩
end
section
variable {σ : L2.St} {H : Hp} {W : WX} {D : Ends} {C : Addr} {y : Str} {K : PySem.W.Frag}
/-- raised -/
theorem x_raiseS {ta : TA} (q : ta σ H fun vs H1 => ∃ v, vs = [v] ∧ ∀ d, H1 d = none → W (.ref C) (some d) σ (upd H1 d (.xd [(y, v)]))) : tRaiseS C y W ta D σ H := q
end
end Ox

/-! Own layer: several except clauses, each with a name or without; == of sequences by place or by data. -/
namespace Ox
open PySem PySem.Spec PyProof.Rows L2
/-- a clause: its class, the slot of its name (if it has one), its suite's reading -/
structure Cl where
  c : Value
  nm : Option Nat
  ts : Addr → Value → Option Addr → TS
/-- what a clause that fits wishes -/
def Cl.hit (k : Cl) (D : Ends) : WX := fun cls d σ H => ∀ a, H a = none → match k.nm with
  | some i => k.ts a cls d (sEnds i D) (σ.set i (some (.ref a))) H
  | none => k.ts a cls d D σ H
/-- .. and one clause behind the other -/
def wCls (K : PySem.W.Frag) (Wout : WX) (D : Ends) : List Cl → WX
  | [] => Wout
  | k :: r => fun cls d σ H => ∃ b, PySem.W.exmOne K cls k.c = some b ∧ (b = true → k.hit D cls d σ H) ∧ (b = false → wCls K Wout D r cls d σ H)
/-- the clauses' text -/
inductive ClsOk (X : Cx) : List ExceptHandler → List Cl → Prop
  | nil : ClsOk X [] []
  | named {x n : Str} {c : Value} {i : Nat} {ts : Addr → Value → Option Addr → TS} {b₀ : Stmt} {suite : List Stmt} {np p : Pos} {hds : List ExceptHandler} {l : List Cl} (hi : X.N[i]? = some n) (hn : X.env.kindOf n = some .local) (hc : Names X x c)
      (hsu : ∀ (a : Addr) (oe : Obj) (cls : Value) (d : Option Addr) (pn : List (Addr × Obj)), Zc cls d oe → (∃ vs, oe.data = .fields vs) → PSs (X.suite a ((a, oe) :: pn)) (b₀ :: suite) (ts a cls d)) (r : ClsOk X hds l) :
      ClsOk X (.ExceptHandler (some (.Name x np)) (some n) (b₀ :: suite) p :: hds) (⟨c, some i, ts⟩ :: l)
  | bare {x : Str} {c : Value} {ts : Addr → Value → Option Addr → TS} {b₀ : Stmt} {suite : List Stmt} {np p : Pos} {hds : List ExceptHandler} {l : List Cl} (hc : Names X x c)
      (hsu : ∀ (a : Addr) (oe : Obj) (cls : Value) (d : Option Addr) (pn : List (Addr × Obj)), Zc cls d oe → (∃ vs, oe.data = .fields vs) → PSs (X.suite a ((a, oe) :: pn)) (b₀ :: suite) (ts a cls d)) (r : ClsOk X hds l) :
      ClsOk X (.ExceptHandler (some (.Name x np)) none (b₀ :: suite) p :: hds) (⟨c, none, ts⟩ :: l)
section
variable {X : Cx}
/-- the reading of a suite's end goes over to what stands behind it -/
theorem sp_named {pins : List (Addr × Obj)} {a : Addr} {oe : Obj} {pn : List (Addr × Obj)} {i : Nat} {n : Str} {D : Ends} {pos : Pos} {f : Flow} {s : Shared} (ok : X.Ok) (hN : X.N.Nodup) (hi : X.N[i]? = some n) (hn : X.env.kindOf n = some .local)
    (h : SP (X.suite a ((a, oe) :: (X.pn ++ pins))) [] (sEnds i D) f s) :
    wpAny (model X.prog X.w) X.A (do bindName X.env n .none; unbindBehindTheSuite X.env n pos) (fun _ s' => SP X pins D f s') X.xe s := by
  cases f with
  | ret u =>
    obtain ⟨v, σ1, H1, S, r, q⟩ := h
    exact gone_ok (S.unsuite ok) hN hi hn fun s' J => ⟨v, _, _, J, r, q⟩
  | next =>
    obtain ⟨σ1, H1, S, q⟩ := h
    exact gone_ok (S.unsuite ok) hN hi hn fun s' J => ⟨_, _, J, q⟩
  | brk =>
    obtain ⟨σ1, H1, S, q⟩ := h
    exact gone_ok (S.unsuite ok) hN hi hn fun s' J => ⟨_, _, J, q⟩
  | cont =>
    obtain ⟨σ1, H1, S, q⟩ := h
    exact gone_ok (S.unsuite ok) hN hi hn fun s' J => ⟨_, _, J, q⟩
theorem sp_bare {pins : List (Addr × Obj)} {a : Addr} {oe : Obj} {pn : List (Addr × Obj)} {D : Ends} {f : Flow} {s : Shared} (ok : X.Ok) (h : SP (X.suite a ((a, oe) :: (X.pn ++ pins))) [] D f s) : SP X pins D f s := by
  cases f with
  | ret u =>
    obtain ⟨v, σ1, H1, S, r, q⟩ := h
    exact ⟨v, _, _, S.unsuite ok, r, q⟩
  | next =>
    obtain ⟨σ1, H1, S, q⟩ := h
    exact ⟨_, _, S.unsuite ok, q⟩
  | brk =>
    obtain ⟨σ1, H1, S, q⟩ := h
    exact ⟨_, _, S.unsuite ok, q⟩
  | cont =>
    obtain ⟨σ1, H1, S, q⟩ := h
    exact ⟨_, _, S.unsuite ok, q⟩
/-- behind a body that let nothing out -/
theorem sp_body {pins : List (Addr × Obj)} {xe : Value → Shared → Prop} {D : Ends} {f : Flow} {s : Shared} (ok : X.Ok) (h : SP (X.tr (X.pn ++ pins) xe) [] D f s) :
    match f with | .next => wpAny (model X.prog X.w) X.A (execs [] X.env) (SP X pins D) X.xe s | f => SP X pins D f s := by
  cases f with
  | ret u =>
    obtain ⟨v, σ1, H1, S, r, q⟩ := h
    exact ⟨v, _, _, S.ofTry ok, r, q⟩
  | next =>
    obtain ⟨σ1, H1, S, q⟩ := h
    exact wpAny_execs_nil ⟨_, _, S.ofTry ok, q⟩
  | brk =>
    obtain ⟨σ1, H1, S, q⟩ := h
    exact ⟨_, _, S.ofTry ok, q⟩
  | cont =>
    obtain ⟨σ1, H1, S, q⟩ := h
    exact ⟨_, _, S.ofTry ok, q⟩
/-- a caught exception goes through the clauses -/
theorem cls_go {pins : List (Addr × Obj)} {σ : L2.St} {H : Hp} {D : Ends} {Wout : WX} {cls : Value} {d : Option Addr} {a : Addr} {B : Heap} {sI s : Shared} (hst : X.stack = X.env :: X.outer) (hf : X.env.frame = some X.env.locals) (hN : X.N.Nodup) (tk : Takes X Wout)
    (J : Inv X pins σ H sI) (nb : ∀ b o, sI.heap.get? b = some o → b ∉ frs X.stack → B.get? b = some o) (up : sI.heap.UpToSlots s.heap) (fl : HandSPX.FlyingZ B X.stack a (Zc cls d) s.heap) (na : H a = none) (os : s.os = sI.os) (ag : AllBare s.gens) :
    ∀ {hds : List ExceptHandler} {l : List Cl}, ClsOk X hds l → wCls X.K Wout D l cls d σ H → wpAny (model X.prog X.w) X.A (handleBy (.ref a) X.env hds) (SP X pins D) X.xe s := by
  have ok := J.ok
  obtain ⟨hh, g, dr, tk', o'⟩ := s
  -- the place is neither a frame nor tracked
  have far : ∀ {h : Heap} {o : Obj} {vs : Array Value}, h.FunFrames B X.stack → h.get? a = some o → o.data = .fields vs → a ≠ X.env.locals ∧ a ∉ X.fs := by
    intro h o vs ff e dd
    have hm : a ∉ frs X.stack := by
      intro z
      obtain ⟨_, o2, e2, n2⟩ := ff.mem z
      rw [e] at e2
      cases e2
      exact n2 _ dd
    have em : frs X.stack = X.env.locals :: X.fs := by
      rw [hst]
      show List.filterMap _ (X.env :: X.outer) = _
      rw [List.filterMap_cons, hf]
      rfl
    rw [em] at hm
    exact ⟨fun z => hm (by rw [z]; exact List.mem_cons_self ..), fun z => hm (List.mem_cons_of_mem _ z)⟩
  have into : ∀ {h : Heap}, HandSPX.FlyingZ B X.stack a (Zc cls d) h → sI.heap.UpToSlots h → ∃ oe, Zc cls d oe ∧ (∃ vs, oe.data = .fields vs) ∧ h.get? a = some oe ∧ Inv (X.suite a ((a, oe) :: (X.pn ++ pins))) [] σ H ⟨h, g, dr, tk', o'⟩ := by
    intro h f u
    obtain ⟨oe, vs, he, hz, hd⟩ := f.there
    obtain ⟨n1, n2⟩ := far f.2.2.1 he hd
    have J1 : Inv X pins σ H ⟨h, g, dr, tk', o'⟩ := J.landed nb f.1 u os ag
    exact ⟨oe, hz, ⟨vs, hd⟩, he, J1.suite he hd na n1 n2⟩
  obtain ⟨oe, hz, hdt, he, S⟩ := into fl up
  have LT : PySem.W.Looks (model X.prog X.w) hh (typeOf (.ref a)) cls := fun A Q E s k q => wpAny_typeOf_ref (k _ _ he) (by rw [hz.1]; exact q)
  have KI : X.K.In hh := S.kIn
  have test : ∀ {x : Str} {c : Value} {np : Pos} {b : Bool} {Q : Value → Shared → Prop} {E : Value → Shared → Prop}, Names X x c → Q c ⟨hh, g, dr, tk', o'⟩ →
      wpAny (model X.prog X.w) (X.A.mark (some (.ref a))) (eval (.Name x np) X.env) Q E ⟨hh, g, dr, tk', o'⟩ := by
    intro x c np b Q E hc q
    obtain ⟨hg, hdb, hm | ⟨hm, hv, hnn⟩⟩ := hc
    · exact ld_glob (X := X.suite a ((a, oe) :: (X.pn ++ pins))) S hg hm q hdb
    · exact ld_blt (X := X.suite a ((a, oe) :: (X.pn ++ pins))) S hg hm hv q hnn hdb
  intro hds l hk
  induction hk with
  | nil =>
    intro w
    refine wpAny_handleBy_nil ?_
    have fl0 := fl
    obtain ⟨_, _, _, oe1, vs1, T, _, _, he1, _, hd1, h1, _⟩ := fl0
    have out : wpAny (model X.prog X.w) X.A (setFlight (.ref a) X.env.frame) (fun _ s4 => wpAny (model X.prog X.w) X.A (throw (.ref a) : Sem Flow) (SP X pins D) X.xe s4) X.xe ⟨hh, g, dr, tk', o'⟩ := by
      rw [hf]
      refine HandSPX.setFlight_upZ fl fun h4 held up4 => wpAny_throw (tk _ _ ?_)
      exact ⟨a, B, sI, pins, σ, H, cls, d, rfl, J, nb, up.trans up4, .inr (.inr held), na, os, ag, w⟩
    unfold PySem.passOn
    refine wpAny_bind (wpAny_field he1 hd1 h1 ?_)
    rw [if_neg (by simp)]
    first
      | exact wpAny_bind (wpAny_pure (wpAny_bind out))
      | exact wpAny_bind out
  | @named x n c i ts b₀ suite np p hds l hi hn hc hsu r ih =>
    intro w
    obtain ⟨b, hb, yes, no⟩ := w
    refine wpAny_handleBy_cons (codeAny_handlers_test ?_) (by intro q; cases q)
    refine test (b := b) hc ((PySem.W.exm_one (M := model X.prog X.w) KI LT hb).here ?_)
    cases b with
    | false => exact ih (no rfl)
    | true =>
      refine codeAny_handlers_suite_as (HandSPX.lands_againZ fl fun h4 fl4 up4 => ?_)
      obtain ⟨oe4, hz4, hd4, _, S4⟩ := into fl4 (up.trans up4)
      refine store_ok (X := X.suite a ((a, oe4) :: (X.pn ++ pins))) (v := .ref a) S4 hN hi (.inl hn) rfl (fun s5 S5 => ?_) (.inr hn)
      exact wpAny_mono ((hsu a oe4 cls d (X.pn ++ pins) hz4 hd4).run [] s5 _ H _ S5 (yes rfl a na)) (fun f s6 h6 => sp_named (pn := X.pn ++ pins) ok hN hi hn h6) fun _ _ z => False.elim z
  | @bare x c ts b₀ suite np p hds l hc hsu r ih =>
    intro w
    obtain ⟨b, hb, yes, no⟩ := w
    refine wpAny_handleBy_cons (codeAny_handlers_test ?_) (by intro q; cases q)
    refine test (b := b) hc ((PySem.W.exm_one (M := model X.prog X.w) KI LT hb).here ?_)
    cases b with
    | false => exact ih (no rfl)
    | true =>
      refine codeAny_handlers_suite (HandSPX.lands_againZ fl fun h4 fl4 up4 => ?_)
      obtain ⟨oe4, hz4, hd4, _, S4⟩ := into fl4 (up.trans up4)
      exact wpAny_mono ((hsu a oe4 cls d (X.pn ++ pins) hz4 hd4).run [] _ _ H _ S4 (yes rfl a na)) (fun f s6 h6 => sp_bare (pn := X.pn ++ pins) ok h6) fun _ _ z => False.elim z
/-- its reading -/
def tTryC (K : PySem.W.Frag) (l : List Cl) (tb : WX → TS) (Wout : WX) : TS := fun D σ H => tb (wCls K Wout D l) D σ H
theorem ps_tryC {body : List Stmt} {h₀ : ExceptHandler} {hds : List ExceptHandler} {l : List Cl} {pos : Pos} {tb : WX → TS} {Wout : WX} (hN : X.N.Nodup) (hs : X.stack = X.env :: X.outer) (hf : X.env.frame = some X.env.locals) (tk : Takes X Wout)
    (hb : ∀ (W : WX) (pn : List (Addr × Obj)) (xe : Value → Shared → Prop), Takes (X.tr pn xe) W → PassesOwn (model X.prog X.w) X.A X.env xe → PSs (X.tr pn xe) body (tb W))
    (hh : ClsOk X (h₀ :: hds) l) : PS X (.Try body (h₀ :: hds) [] [] pos) (tTryC X.K l tb Wout) := by
  refine ⟨fun pins s σ H D I h => ?_⟩
  have ok := I.ok
  refine wpAny_Try_except ?_
  refine wpAny_mono ((hb (wCls X.K Wout D l) (X.pn ++ pins) (fun e s₁ => wpAny (model X.prog X.w) X.A (noteFrame e X.env) (fun _ s₂ => wpAny (model X.prog X.w) X.A (setFlight e none) (fun _ s₃ =>
    wpAny (model X.prog X.w) X.A (handleBy e X.env (h₀ :: hds)) (SP X pins D) X.xe s₃) X.xe s₂) X.xe s₁) (fun u s' air => ?_) PassesOwn.looking).run [] s σ H D (I.toTry _) h) (fun f s1 z => by cases f <;> exact sp_body ok z) (fun e s1 z => z)
  obtain ⟨a, B, sI, pins', σ', H', cls, d, rfl, J', nb, up, sky, na, os, ag, w⟩ := air
  have J : Inv X pins σ' H' sI := J'.ofTry ok
  have sky' : Sky B (X.env :: X.outer) a (Zc cls d) X.env.locals s'.heap := by rw [← hs]; exact sky
  show wpAny (model X.prog X.w) X.A (noteFrame (.ref a) X.env) _ _ _
  refine Sky.land Zc.steady (by rw [ok.frames, hs]) hf sky' fun h3 fl3 up3 => ?_
  exact cls_go (s := { s' with heap := h3 }) hs hf hN tk J nb (up.trans up3) (by rw [hs]; exact fl3) na os ag hh w
end
/-! ### == and != of sequences whose items are the same things, or equal data -/
mutual
inductive Alk (K : PySem.W.Frag) (H : Hp) : Nat → V → V → Prop
  | ref {n : Nat} (a : Addr) : Alk K H n (.ref a) (.ref a)
  | str {n : Nat} (x : Str) : Alk K H n (.str x) (.str x)
  | dat {n : Nat} {x y : V} {d : PyData} : Dp K H x d → Dp K H y d → SeqAt.shaped d = true → Alk K H n x y
  | tup {n : Nat} {a b : Addr} {xs ys : List V} : SqT K H a xs → SqT K H b ys → AlkA K H n xs ys → Alk K H (n + 1) (.ref a) (.ref b)
  | lst {n : Nat} {a b : Addr} {xs ys : List V} : SqL K H a xs → SqL K H b ys → AlkA K H n xs ys → Alk K H (n + 1) (.ref a) (.ref b)
inductive AlkA (K : PySem.W.Frag) (H : Hp) : Nat → List V → List V → Prop
  | nil {n : Nat} : AlkA K H n [] []
  | cons {n : Nat} {x y : V} {xs ys : List V} : Alk K H n x y → AlkA K H n xs ys → AlkA K H n (x :: xs) (y :: ys)
end
theorem Alk.int {K : PySem.W.Frag} {H : Hp} {n : Nat} (i : Int) : Alk K H n (.int i) (.int i) := .dat (.int i) (.int i) rfl
theorem Alk.bl {K : PySem.W.Frag} {H : Hp} {n : Nat} (b : Bool) : Alk K H n (.bl b) (.bl b) := .dat (.bl b) (.bl b) rfl
theorem Alk.non {K : PySem.W.Frag} {H : Hp} {n : Nat} : Alk K H n .non .non := .dat .non .non rfl
section
variable {X : Cx} {pins : List (Addr × Obj)} {σ : L2.St} {H : Hp} {s : Shared}
theorem AlkA.len {K : PySem.W.Frag} {n : Nat} : ∀ {xs ys : List V}, AlkA K H n xs ys → xs.length = ys.length
  | _, _, .nil => rfl
  | _, _, .cons _ r => by simp [r.len]
theorem vals_size : ∀ {xs : List V} {us : List Value}, Vals xs us → us.length = xs.length
  | _, _, .nil => rfl
  | _, _, .cons _ r => by simp [vals_size r]
theorem all_true {n : Nat} : ((List.range n).all fun _ => true) = true := by simp
mutual
theorem Alk.eq (I : Inv X pins σ H s) : ∀ {n : Nat} {x y : V}, Alk X.K H n x y → ∀ {u v : Value}, RelV x u → RelV y v → ∀ A : Around, A.units + 64 + n < cLine → SeqAt.EqAt A s u v true
  | _, _, _, .ref a, u, v, ru, rv, A, hu => by
    obtain rfl : u = Value.ref a := ru
    obtain rfl : v = Value.ref a := rv
    exact SeqAt.EqAt.same _
  | _, _, _, .str x, u, v, ru, rv, A, hu => by
    obtain ⟨t1, rfl⟩ := ru
    obtain ⟨t2, rfl⟩ := rv
    have e := SeqAt.EqAt.str_str (A := A) (s := s) x t1 x t2
    rw [beq_self_eq_true] at e
    exact e
  | _, _, _, .dat (d := d) h1 h2 hs, u, v, ru, rv, A, hu => by
    obtain ⟨as, r1⟩ := Dp.reads I d _ _ h1 ru
    obtain ⟨bs, r2⟩ := Dp.reads I d _ _ h2 rv
    have cl := SeqAt.canLay_of_shaped hs
    have e := SeqAt.eqAt_reads d d A s u v as bs r1 r2 cl cl (SeqAt.room_of_shaped hs (by omega))
    rw [SeqAt.eqv_refl d cl] at e
    exact e
  | _, _, _, .tup (n := n) (a := a) (b := b) h1 h2 hs, u, v, ru, rv, A, hu => by
    obtain rfl : u = Value.ref a := ru
    obtain rfl : v = Value.ref b := rv
    obtain ⟨is, w1, t1, _⟩ := I.tuple h1
    obtain ⟨js, w2, t2, _⟩ := I.tuple h2
    by_cases hab : a = b
    · subst hab; exact SeqAt.EqAt.same _
    · intro prog w E Q hq
      refine SeqAt.EqIn.of_refs hab (fun E Q hq => ?_) E Q hq
      refine SeqAt.rcIn_tuples (e := fun _ => true) t1 t2 (by omega) (fun j j1 j2 => (AlkA.eq I hs w1 w2 A.in1 (by show A.units + 1 + 64 + n < cLine; omega) j (by simpa using j1) (by simpa using j2)).inModel prog w) ?_
      have e : is.toArray.size = js.toArray.size := by rw [List.size_toArray, List.size_toArray, vals_size w1, vals_size w2, hs.len]
      rw [all_true, e, beq_self_eq_true]
      exact hq
  | _, _, _, .lst (n := n) (a := a) (b := b) h1 h2 hs, u, v, ru, rv, A, hu => by
    obtain rfl : u = Value.ref a := ru
    obtain rfl : v = Value.ref b := rv
    obtain ⟨is, w1, t1, _⟩ := I.list h1
    obtain ⟨js, w2, t2, _⟩ := I.list h2
    by_cases hab : a = b
    · subst hab; exact SeqAt.EqAt.same _
    · intro prog w E Q hq
      refine SeqAt.EqIn.of_refs hab (fun E Q hq => ?_) E Q hq
      have e : is.toArray.size = js.toArray.size := by rw [List.size_toArray, List.size_toArray, vals_size w1, vals_size w2, hs.len]
      refine SeqAt.rcIn_lists (e := fun _ => true) t1.isList t2.isList e (by omega) (fun j j1 j2 => (AlkA.eq I hs w1 w2 A.in1 (by show A.units + 1 + 64 + n < cLine; omega) j (by simpa using j1) (by simpa using j2)).inModel prog w) ?_
      rw [all_true]
      exact hq
theorem AlkA.eq (I : Inv X pins σ H s) : ∀ {n : Nat} {xs ys : List V}, AlkA X.K H n xs ys → ∀ {us vs : List Value}, Vals xs us → Vals ys vs → ∀ A : Around, A.units + 64 + n < cLine → ∀ j (j1 : j < us.length) (j2 : j < vs.length), SeqAt.EqAt A s us[j] vs[j] true
  | _, _, _, .nil, _, _, .nil, .nil, A, hu, j, j1, j2 => by simp at j1
  | _, _, _, .cons h t, _, _, .cons r1 w1, .cons r2 w2, A, hu, 0, j1, j2 => Alk.eq I h r1 r2 A hu
  | _, _, _, .cons h t, _, _, .cons r1 w1, .cons r2 w2, A, hu, j + 1, j1, j2 => AlkA.eq I t w1 w2 A hu j (by simpa using j1) (by simpa using j2)
end
/-- both are tuples, or both lists -/
def SqAlk (K : PySem.W.Frag) (H : Hp) (x y : V) : Prop := ∃ (a b : Addr) (xs ys : List V) (n : Nat), x = .ref a ∧ y = .ref b ∧ n ≤ 30 ∧ AlkA K H n xs ys ∧ ((SqT K H a xs ∧ SqT K H b ys) ∨ (SqL K H a xs ∧ SqL K H b ys))
def rEqA (K : PySem.W.Frag) : R2 := fun x y H Q => SqAlk K H x y ∧ Q (.bl true) H
def rNeA (K : PySem.W.Frag) : R2 := fun x y H Q => SqAlk K H x y ∧ Q (.bl false) H
theorem op_eqA (hu : X.A.units + 100 < cLine) : OpR X (compareOp .Eq) (rEqA X.K) := by
  intro pins s σ H x y v u Q I rx ry h
  obtain ⟨⟨a, b, xs, ys, n, rfl, rfl, hn, al, hs⟩, q⟩ := h
  obtain rfl : v = Value.ref a := rx
  obtain rfl : u = Value.ref b := ry
  show wpAny _ _ (richCompare .Eq (.ref a) (.ref b)) _ _ _
  rcases hs with ⟨h1, h2⟩ | ⟨h1, h2⟩
  · obtain ⟨is, w1, t1, _⟩ := I.tuple h1
    obtain ⟨js, w2, t2, _⟩ := I.tuple h2
    have e : is.toArray.size = js.toArray.size := by rw [List.size_toArray, List.size_toArray, vals_size w1, vals_size w2, al.len]
    refine SeqAt.rcIn_tuples (e := fun _ => true) t1 t2 (by omega) (fun j j1 j2 => (AlkA.eq I al w1 w2 X.A.in1 (by show X.A.units + 1 + 64 + n < cLine; omega) j (by simpa using j1) (by simpa using j2)).inModel _ _) ?_
    rw [all_true, e, beq_self_eq_true]
    exact ⟨.bl true, H, I, rfl, q⟩
  · obtain ⟨is, w1, t1, _⟩ := I.list h1
    obtain ⟨js, w2, t2, _⟩ := I.list h2
    have e : is.toArray.size = js.toArray.size := by rw [List.size_toArray, List.size_toArray, vals_size w1, vals_size w2, al.len]
    refine SeqAt.rcIn_lists (e := fun _ => true) t1.isList t2.isList e (by omega) (fun j j1 j2 => (AlkA.eq I al w1 w2 X.A.in1 (by show X.A.units + 1 + 64 + n < cLine; omega) j (by simpa using j1) (by simpa using j2)).inModel _ _) ?_
    rw [all_true]
    exact ⟨.bl true, H, I, rfl, q⟩
theorem op_neA (hu : X.A.units + 100 < cLine) : OpR X (compareOp .NotEq) (rNeA X.K) := by
  intro pins s σ H x y v u Q I rx ry h
  obtain ⟨⟨a, b, xs, ys, n, rfl, rfl, hn, al, hs⟩, q⟩ := h
  obtain rfl : v = Value.ref a := rx
  obtain rfl : u = Value.ref b := ry
  show wpAny _ _ (richCompare .NotEq (.ref a) (.ref b)) _ _ _
  rcases hs with ⟨h1, h2⟩ | ⟨h1, h2⟩
  · obtain ⟨is, w1, t1, _⟩ := I.tuple h1
    obtain ⟨js, w2, t2, _⟩ := I.tuple h2
    have e : is.toArray.size = js.toArray.size := by rw [List.size_toArray, List.size_toArray, vals_size w1, vals_size w2, al.len]
    refine SeqAt.RcNeAt.tuples (e := fun _ => true) t1 t2 (by omega) (fun j j1 j2 => AlkA.eq I al w1 w2 X.A.in1 (by show X.A.units + 1 + 64 + n < cLine; omega) j (by simpa using j1) (by simpa using j2)) _ _ _ _ ?_
    rw [all_true, e, beq_self_eq_true]
    exact ⟨.bl false, H, I, rfl, q⟩
  · obtain ⟨is, w1, t1, _⟩ := I.list h1
    obtain ⟨js, w2, t2, _⟩ := I.list h2
    have e : is.toArray.size = js.toArray.size := by rw [List.size_toArray, List.size_toArray, vals_size w1, vals_size w2, al.len]
    refine SeqAt.RcNeAt.lists (e := fun _ => true) t1.isList t2.isList e (by omega) (fun j j1 j2 => AlkA.eq I al w1 w2 X.A.in1 (by show X.A.units + 1 + 64 + n < cLine; omega) j (by simpa using j1) (by simpa using j2)) _ _ _ _ ?_
    rw [all_true]
    exact ⟨.bl false, H, I, rfl, q⟩
end
/-! ### methods that may raise -/
def tMethX (C : Addr) (m : Str) (sp : Sp) (E : L2.St → XK) (ta : TE) (t : TA) : TE := fun σ H Q => ta σ H fun x H1 => ∃ a dx fs, x = .ref a ∧ H1 a = some (.ins C dx fs) ∧ fs.lookup m = none ∧ t σ H1 fun vs H2 => sp (x :: vs) H2 Q (E σ)
section
variable {X : Cx} {k : Nat} {C : Addr} {m : Str} {ps : List Str} {sp : Sp} {o e : Expr} {es : List Expr} {ta : TE} {t : TA} {apos pos : Pos} {pl : Sem Bool} {W : WX}
theorem pe_mtX (M : MetX X.prog X.w X.K X.mg X.base C k m ps sp) (kc : Cls X.K C) (hr : Room k X.A) (tk : Takes X W) (he : PE X o ta) (ha : PA X (e :: es) t)
    (hst : starEach (e :: es) X.env = (false, eval e X.env) :: starEach es X.env := by rfl) (hpl : (backTo pos (starEach es X.env)).any (·.1) = false := by rfl)
    (ht : eval (.Call (.Attribute o m apos) (e :: es) [] pos) X.env = (do let ov ← eval o X.env; standAt apos.atName; let (f, first) ← holding [ov] (getMethod ov m pl); callWith pos f first (backTo pos (starEach (e :: es) X.env)) (backToKw pos (keywordEach [] X.env))) := by rfl) :
    PE X (.Call (.Attribute o m apos) (e :: es) [] pos) (tMethX C m sp (WE W) ta t) := by
  obtain ⟨f, fd, mt, F, hb⟩ := M.ex
  refine ⟨fun pins s σ H Q I h => PySem.W.methodCall_KW (pl := pl) (thn (he.run pins s σ H _ I h) ?_) ht⟩
  rintro u s1 ⟨_, H1, I1, rx, a, dx, fs, rfl, ea, l, q⟩
  cases (show u = Value.ref a from rx)
  refine getmeth_ok I1 ea kc mt l (PySem.W.callWith_K (first := [.ref a]) (h₀ := X.base) I.ok.mod.kin mt.kp (thn (ha.run pos pins s1 σ H1 _ I1 q) ?_) hst hpl)
  rintro us s2 ⟨vs, H2, I2, r, q2⟩
  exact ⟨I2.kIn, run_fnS (us := .ref a :: us) (vs := .ref a :: vs) F hr hb (passAt tk σ) I2 (.cons rfl r) q2⟩
end
section
variable {σ : L2.St} {H : Hp} {Q : VK} {D : Ends} {ta : TE} {al : TA} {C : Addr} {m : Str} {sp : Sp} {E : L2.St → XK} {K : PySem.W.Frag} {W Wout : WX} {cls : Value} {d : Option Addr} {k : Cl} {r : List Cl} {tb : WX → TS} {l : List Cl}
theorem x_mtX (h : ta σ H fun x H1 => rMtA C m x H1 (al σ H1 fun vs H2 => sp (x :: vs) H2 Q (E σ))) : tMethX C m sp E ta al σ H Q := h
theorem x_tryC (q : tb (wCls K Wout D l) D σ H) : tTryC K l tb Wout D σ H := q
theorem x_hit (e : PySem.W.exmOne K cls k.c = some true) (q : k.hit D cls d σ H) : wCls K Wout D (k :: r) cls d σ H := ⟨true, e, fun _ => q, fun z => nomatch z⟩
theorem x_miss (e : PySem.W.exmOne K cls k.c = some false) (q : wCls K Wout D r cls d σ H) : wCls K Wout D (k :: r) cls d σ H := ⟨false, e, (fun z => nomatch z), fun _ => q⟩
theorem x_hitN {c : Value} {i : Nat} {ts : Addr → Value → Option Addr → TS} (e : PySem.W.exmOne K cls c = some true) (q : ∀ a, H a = none → ts a cls d (sEnds i D) (σ.set i (some (.ref a))) H) : WE (wCls K Wout D (⟨c, some i, ts⟩ :: r)) σ cls d H := x_hit e q
theorem x_hitB {c : Value} {ts : Addr → Value → Option Addr → TS} (e : PySem.W.exmOne K cls c = some true) (q : ∀ a, H a = none → ts a cls d D σ H) : WE (wCls K Wout D (⟨c, none, ts⟩ :: r)) σ cls d H := x_hit e q
theorem x_missE (e : PySem.W.exmOne K cls k.c = some false) (q : WE (wCls K Wout D r) σ cls d H) : WE (wCls K Wout D (k :: r)) σ cls d H := x_miss e q
theorem x_byV {y : Str} {a : Addr} {dd : Addr} {v : V} {i : Nat} {C : Addr} (G : ExcG K C y) (hv : σ[i]? = some (some (.ref a))) (hd : H dd = some (.xd [(y, v)])) (q : Q v H) : tByS K y a (.ref C) (some dd) (tVar i) σ H Q :=
  ⟨.ref a, hv, rfl, C, dd, v, rfl, G, rfl, hd, q⟩
theorem hu100 {k : Nat} {A : Around} (r : Room k A) : A.units + 100 < cLine := by have := r.un; omega
end
end Ox

/-! Own hook, second form: beside defs, __init__s that say super(). -/
namespace Oh
open PySem PySem.Spec PyProof.Rows L2
/-- a class's __init__ that says super(): the class's name, its field, the def -/
structure Sd where
  cls : Str
  fld : Str
  qual : Str
  st : Stmt
abbrev Sd.spot (d : Sd) (K : Frag) : Addr := He.ma K (He.ga K d.cls) "__init__"
def Sd.fnd (d : Sd) (K : Frag) : He.FnW := (K.lookup (d.spot K)).bind fun o => match o.data with
  | .func fd => some (fd.name, fd.qualname, fd.params, fd.body, fd.scope, fd.globals, [], fd.builtins)
  | _ => none
def Sd.due (d : Sd) : He.FnW := some ("__init__", d.qual, defArgs d.st, .stmts (defBody d.st), defScope d.st, mainGlobals, [], builtinsNs)
/-- the cell holds the class, the code is of the file -/
def cellB (K : Frag) (C : Addr) : List (Str × Addr) → Bool
  | [(n, cc)] => decide (n = "__class__") && (match K.lookup cc with
    | some o => (match o.data with
      | .cell (some (.ref D)) => decide (D = C)
      | _ => false)
    | none => false)
  | _ => false
def fileB (K : Frag) (file : Str) : Value → Bool
  | .ref cda => (match K.lookup cda with
    | some o => (match o.data with
      | .fields vs => (match (vs[2]? : Option Value) with
        | some (Value.str f _) => decide (f = file)
        | _ => false)
      | _ => false)
    | none => false)
  | _ => false
def Sd.good (d : Sd) (file : Str) (K : Frag) : Bool := match K.lookup (d.spot K) with
  | some o => (match o.data with
    | .func fd => cellB K (He.ga K d.cls) fd.closure && (fileB K file fd.code && (PySem.W.codeIn K fd.code d.qual && isNon fd.defaults))
    | _ => false)
  | none => false
/-- the text of such an __init__ -/
def IsSup (st : Stmt) (y : Str) : Prop := ∃ (txt : Str) (p1 p2 q1 q2 q3 q4 q5 q6 q7 q8 q9 q10 : Pos), defArgs st = PySem.SupX.iA y p1 p2 ∧ defBody st = PySem.SupX.iB y txt q1 q2 q3 q4 q5 q6 q7 q8 q9 q10 ∧ defScope st = PySem.SupX.iS y ∧ (q3.endLine == q5.line) = true
theorem Sd.fn_ {d : Sd} {file : Str} {K : Frag} {P : Program} (s : IsSup d.st d.fld) (e : d.fnd K = d.due) (g : d.good file K = true) (hf : (P.main.file == file) = true) :
    ∃ (oc : Value) (od : Option Addr) (kV doc pm : Value) (an : Option Addr) (cda : Addr) (ct : Value) (osl : Array (Option Value)) (qual txt : Str) (cc : Addr) (p1 p2 q1 q2 q3 q4 q5 q6 q7 q8 q9 q10 : Pos),
    K.lookup (d.spot K) = some ⟨oc, od, .func (PySem.W.ksFn "__init__" qual (PySem.SupX.iA d.fld p1 p2) (PySem.SupX.iB d.fld txt q1 q2 q3 q4 q5 q6 q7 q8 q9 q10) (PySem.SupX.iS d.fld) .none kV doc pm an (.ref cda) ct cc), osl⟩ ∧ PySem.W.codeIn K (.ref cda) qual = true ∧
    (∃ (ccl : Value) (cdd : Option Addr) (vs : Array Value) (ccs : Array (Option Value)) (file : Str) (tf : Tok), K.lookup cda = some ⟨ccl, cdd, .fields vs, ccs⟩ ∧ vs[2]? = some (.str file tf) ∧ ((P.main.file : Str) == file) = true) ∧
    (∃ (cl : Value) (cld : Option Addr) (csl : Array (Option Value)), K.lookup cc = some ⟨cl, cld, .cell (some (.ref (He.ga K d.cls))), csl⟩) ∧ (q3.endLine == q5.line) = true := by
  obtain ⟨txt, p1, p2, q1, q2, q3, q4, q5, q6, q7, q8, q9, q10, e1, e2, e3, hl⟩ := s
  unfold Sd.fnd at e
  unfold Sd.good at g
  cases q : K.lookup (d.spot K) with
  | none => rw [q] at g; cases g
  | some o =>
    obtain ⟨oc, od, dt, osl⟩ := o
    rw [q] at e g
    cases dt with
    | func fd =>
      obtain ⟨n1, n2, n3, n4, n5, n6, n7, n8, n9, n10, n11, n12, n13, n14, n15⟩ := fd
      have e4 : (some (n1, n2, n3, n4, n5, n6, [], n15) : He.FnW) = (some ("__init__", d.qual, defArgs d.st, .stmts (defBody d.st), defScope d.st, mainGlobals, [], builtinsNs) : He.FnW) := e
      have g2 : (cellB K (He.ga K d.cls) n7 && (fileB K file n13 && (PySem.W.codeIn K n13 d.qual && isNon n8))) = true := g
      obtain ⟨g3, g4⟩ := Bool.and_eq_true_iff.mp g2
      obtain ⟨g5, g6⟩ := Bool.and_eq_true_iff.mp g4
      obtain ⟨g7, g8⟩ := Bool.and_eq_true_iff.mp g6
      have e8 : n8 = .none := by
        cases n8 with
        | none => rfl
        | _ => cases g8
      rw [e1, e2, e3] at e4
      simp only [Option.some.injEq, Prod.mk.injEq] at e4
      obtain ⟨h1, h2, h3, h4, h5, h6, _, h8⟩ := e4
      obtain ⟨cc, ec, cl, cld, csl, hcc⟩ : ∃ cc, n7 = [(("__class__" : Str), cc)] ∧ ∃ (cl : Value) (cld : Option Addr) (csl : Array (Option Value)), K.lookup cc = some ⟨cl, cld, .cell (some (.ref (He.ga K d.cls))), csl⟩ := by
        unfold cellB at g3
        split at g3
        · rename_i n cc
          obtain ⟨a, b⟩ := Bool.and_eq_true_iff.mp g3
          refine ⟨cc, by rw [of_decide_eq_true a], ?_⟩
          split at b
          · rename_i o ho
            obtain ⟨o1, o2, o3, o4⟩ := o
            split at b
            · rename_i D hD
              have hD' : o3 = .cell (some (.ref D)) := hD
              have := of_decide_eq_true b
              subst this
              subst hD'
              exact ⟨_, _, _, ho⟩
            · cases b
          · cases b
        · cases g3
      obtain ⟨cda, ecda, ccl, cdd, vs, ccs, f, tf, hcda, hvs, hff⟩ : ∃ cda, n13 = .ref cda ∧ ∃ (ccl : Value) (cdd : Option Addr) (vs : Array Value) (ccs : Array (Option Value)) (f : Str) (tf : Tok), K.lookup cda = some ⟨ccl, cdd, .fields vs, ccs⟩ ∧ vs[2]? = some (.str f tf) ∧ f = file := by
        unfold fileB at g5
        split at g5
        · rename_i cda
          split at g5
          · rename_i o ho
            obtain ⟨o1, o2, o3, o4⟩ := o
            split at g5
            · rename_i vs hv
              have hv' : o3 = .fields vs := hv
              subst hv'
              split at g5
              · rename_i f tf hx
                exact ⟨cda, rfl, _, _, _, _, f, tf, ho, hx, of_decide_eq_true g5⟩
              · cases g5
            · cases g5
          · cases g5
        · cases g5
      subst h1 h2 h3 h4 h5 h6 h8 e8 ec ecda hff
      exact ⟨oc, od, n9, n10, n11, n12, cda, n14, osl, d.qual, txt, cc, p1, p2, q1, q2, q3, q4, q5, q6, q7, q8, q9, q10, rfl, g7, ⟨ccl, cdd, vs, ccs, f, tf, hcda, hvs, hf⟩, ⟨cl, cld, csl, hcc⟩, hl⟩
    | _ => cases g
/-- the class's object -/
def oexB (K : Frag) (C : Addr) : Bool := match K.lookup C with
  | some ⟨.type "type", _, .cls cd, sl⟩ => (match cd.mro, sl.toList with
    | .ref C' :: bm, [_, _, _, _, some (.builtin n), _] => C' == C && n == "ValueError.__new__" && !cd.hasDel && cd.hasDict && PySem.HandSPX.refsVE bm
    | _, _ => false)
  | _ => false
theorem oexB_ok {K : Frag} {C : Addr} (q : oexB K C = true) : ∃ nm q N bs bm sn sub ab col dd k0 k1 k2 k3 k5, K.lookup C = some (excClassObj nm q C N bs bm true sn sub ab col dd k0 k1 k2 k3 k5 "ValueError.__new__") ∧ PySem.HandSPX.refsVE bm = true := by
  unfold oexB at q
  split at q
  · rename_i dd cd sl ho
    split at q
    · rename_i C' bm k0 k1 k2 k3 n k5 hm hs
      simp only [Bool.and_eq_true, beq_iff_eq, Bool.not_eq_true'] at q
      obtain ⟨⟨⟨⟨rfl, rfl⟩, hdel⟩, hdi⟩, ht⟩ := q
      obtain ⟨nm, bs, mro, ns, qn, hd, sn, sub, ab, col, del⟩ := cd
      dsimp only at hm hdel hdi
      subst hm hdel hdi
      have hsl : sl = #[k0, k1, k2, k3, some (.builtin "ValueError.__new__"), k5] := by
        obtain ⟨l⟩ := sl
        simp only at hs
        rw [hs]
      subst hsl
      exact ⟨nm, qn, ns, bs, bm, sn, sub, ab, col, dd, k0, k1, k2, k3, k5, ho, ht⟩
    · cases q
  · cases q
/-- all that the written part says of the class, as one Bool -/
def supB (x y : Str) : Frag → Bool := fun K =>
  oexB K (He.ga K x) && (He.eqO (PySem.W.findIn K (.ref (He.ga K x)) "__setattr__") (some (some (.builtin "object.__setattr__"))) && (He.eqO (PySem.W.findIn K (.ref (He.ga K x)) "__getattribute__") (some (some (.builtin "BaseException.__getattribute__"))) &&
  (He.eqO (PySem.W.findIn K (.ref (He.ga K x)) "__getattr__") (some none) && (He.eqO (PySem.W.findIn K (.ref (He.ga K x)) y) (some none) && (He.eqO (PySem.W.findIn K (.ref (He.ga K x)) "__init__") (some (some (.ref (He.ma K (He.ga K x) "__init__")))) &&
  (decide (PySem.W.typeIn K (.ref (He.ma K (He.ga K x) "__init__")) = some (.type "function")) && (PySem.W.keepIn K (.ref (He.ga K x)) && (decide (PySem.W.subIn K (.ref (He.ga K x)) (.type "BaseException") = some true) && (decide (PySem.W.subIn K (.ref (He.ga K x)) (.type "ValueError") = some true) &&
  (decide (PySem.W.mroIn K (He.ga K x) (.ref (He.ga K x)) = some true) && (decide (PySem.W.typeIn K (.ref (He.ga K x)) = some (.type "type")) && (PySem.W.hasDictIn K (He.ga K x) && (He.eqO (PySem.W.nsIn K PySem.cStatics "thirdparty.any") (some none) &&
  He.eqO (PySem.W.ks_superIn K (He.ga K x) (He.ga K x) "__init__") (some (some (.builtin "ValueError.__init__"))))))))))))))))
/-- what a law's head gives -/
theorem supB_ok {x y : Str} {K : Frag} {mg : Str → Option Value} {P : Program} {file : Str} {d : Sd} (hb : supB x y K = true) (gC : mg x = some (.ref (He.ga K x))) (noS : mg "super" = none) (top : (P.main.scope.names.lookup ("super" : Str)).isSome = false) (hf : (P.main.file == file) = true)
    (f : PySem.SupX.Fld y) (ec : d.cls = x) (ey : d.fld = y) (s : IsSup d.st d.fld) (e : d.fnd K = d.due) (g : d.good file K = true) : Ox.ExcF P K mg x y (He.ga K x) := by
  subst ec ey
  obtain ⟨h1, h⟩ := Bool.and_eq_true_iff.mp hb
  obtain ⟨h2, h⟩ := Bool.and_eq_true_iff.mp h
  obtain ⟨h3, h⟩ := Bool.and_eq_true_iff.mp h
  obtain ⟨h4, h⟩ := Bool.and_eq_true_iff.mp h
  obtain ⟨h5, h⟩ := Bool.and_eq_true_iff.mp h
  obtain ⟨h6, h⟩ := Bool.and_eq_true_iff.mp h
  obtain ⟨h7, h⟩ := Bool.and_eq_true_iff.mp h
  obtain ⟨h8, h⟩ := Bool.and_eq_true_iff.mp h
  obtain ⟨h9, h⟩ := Bool.and_eq_true_iff.mp h
  obtain ⟨h10, h⟩ := Bool.and_eq_true_iff.mp h
  obtain ⟨h11, h⟩ := Bool.and_eq_true_iff.mp h
  obtain ⟨h12, h⟩ := Bool.and_eq_true_iff.mp h
  obtain ⟨h13, h⟩ := Bool.and_eq_true_iff.mp h
  obtain ⟨h14, h15⟩ := Bool.and_eq_true_iff.mp h
  exact ⟨_, f, gC, noS, oexB_ok h1, He.eqO_ok h2, He.eqO_ok h3, He.eqO_ok h4, He.eqO_ok h5, He.eqO_ok h6, of_decide_eq_true h7, h8, of_decide_eq_true h9, of_decide_eq_true h10, of_decide_eq_true h11, of_decide_eq_true h12, h13, He.eqO_ok h14, He.eqO_ok h15, top, Sd.fn_ s e g hf⟩
theorem supB_g {x y : Str} {K : Frag} (hb : supB x y K = true) : Ox.ExcG K (He.ga K x) y := by
  obtain ⟨h1, h⟩ := Bool.and_eq_true_iff.mp hb
  obtain ⟨h2, h⟩ := Bool.and_eq_true_iff.mp h
  obtain ⟨h3, h⟩ := Bool.and_eq_true_iff.mp h
  obtain ⟨h4, h⟩ := Bool.and_eq_true_iff.mp h
  obtain ⟨h5, h⟩ := Bool.and_eq_true_iff.mp h
  obtain ⟨h6, h⟩ := Bool.and_eq_true_iff.mp h
  obtain ⟨h7, h⟩ := Bool.and_eq_true_iff.mp h
  obtain ⟨h8, h⟩ := Bool.and_eq_true_iff.mp h
  obtain ⟨h9, h⟩ := Bool.and_eq_true_iff.mp h
  obtain ⟨h10, h⟩ := Bool.and_eq_true_iff.mp h
  obtain ⟨h11, h⟩ := Bool.and_eq_true_iff.mp h
  obtain ⟨h12, h⟩ := Bool.and_eq_true_iff.mp h
  obtain ⟨h13, h⟩ := Bool.and_eq_true_iff.mp h
  exact ⟨He.eqO_ok h3, He.eqO_ok h4, of_decide_eq_true h9, h13, He.eqO_ok h5⟩
/-! the hook -/
def see2 (file : Str) (fa : List (Frag → Bool)) (ds : List Dd) (ss : List Sd) (K : Frag) : Ob := ((fa.all fun f => f K) && (ds.all (fun d => d.good K) && ss.all fun d => d.good file K), ds.map (fun d => d.fnd K) ++ ss.map fun d => d.fnd K)
def want2 (ds : List Dd) (ss : List Sd) : Ob := (true, ds.map Dd.due ++ ss.map Sd.due)
def Told2 (file : Str) (fa : List (Frag → Bool)) (ds : List Dd) (ss : List Sd) (K : Frag) : Prop := see2 file fa ds ss K = want2 ds ss
def seeG2 (n : Nat) (file : Str) (fa : List (Frag → Bool)) (ds : List Dd) (ss : List Sd) (g : Addr → Option Obj) : Ob := see2 file fa ds ss (He.frG g (cStatics :: sysModules :: He.asD g n))
def hook2 (n : Nat) (file : Str) (fa : List (Frag → Bool)) (ds : List Dd) (ss : List Sd) : PySem.W.Hook where
  α := Ob
  obs := fun s => seeG2 n file fa ds ss s.heap.get?
  val := fun _ => want2 ds ss
  says := fun _ h => ∃ K : Frag, K.In h ∧ Told2 file fa ds ss K
  of := fun _ _ e => ⟨_, He.frG_in, e⟩
  keeps := fun _ _ _ ⟨K, hK, c⟩ k => ⟨K, PySem.W.Frag.In.keeps hK k, c⟩
def obT2 (n : Nat) (file : Str) (fa : List (Frag → Bool)) (ds : List Dd) (ss : List Sd) (s : PySem.W.SharedT) : Ob := seeG2 n file fa ds ss (HandSHeadRun.getT s)
theorem obT2_eq {n : Nat} {file : Str} {fa : List (Frag → Bool)} {ds : List Dd} {ss : List Sd} (s : PySem.W.SharedT) : obT2 n file fa ds ss s = (hook2 n file fa ds ss).obs s.abs := by
  have e : HandSHeadRun.getT s = s.abs.heap.get? := funext (HandSHeadRun.getT_eq s)
  show seeG2 n file fa ds ss (HandSHeadRun.getT s) = seeG2 n file fa ds ss s.abs.heap.get?
  rw [e]
section
variable {file : Str} {fa : List (Frag → Bool)} {ds : List Dd} {ss : List Sd} {K : Frag}
theorem Told2.told (c : Told2 file fa ds ss K) : Told fa ds K := by
  have c1 := congrArg (fun z : Ob => z.1) c
  have c2 := congrArg (fun z : Ob => z.2) c
  have a1 : ((fa.all fun f => f K) && (ds.all (fun d => d.good K) && ss.all fun d => d.good file K)) = true := c1
  obtain ⟨b1, b2⟩ := Bool.and_eq_true_iff.mp a1
  obtain ⟨b3, b4⟩ := Bool.and_eq_true_iff.mp b2
  have a2 : ds.map (fun d => d.fnd K) ++ ss.map (fun d => d.fnd K) = ds.map Dd.due ++ ss.map Sd.due := c2
  have a3 := (List.append_inj a2 (by simp)).1
  show ((fa.all fun f => f K) && ds.all fun d => d.good K, ds.map fun d => d.fnd K) = (true, ds.map Dd.due)
  rw [b1, b3, a3]
  rfl
theorem Told2.sup (c : Told2 file fa ds ss K) (i : Nat) {d : Sd} (h : ss[i]? = some d) : d.fnd K = d.due ∧ d.good file K = true := by
  have c1 := congrArg (fun z : Ob => z.1) c
  have c2 := congrArg (fun z : Ob => z.2) c
  have a1 : ((fa.all fun f => f K) && (ds.all (fun d => d.good K) && ss.all fun d => d.good file K)) = true := c1
  obtain ⟨b1, b2⟩ := Bool.and_eq_true_iff.mp a1
  obtain ⟨b3, b4⟩ := Bool.and_eq_true_iff.mp b2
  have a2 : ds.map (fun d => d.fnd K) ++ ss.map (fun d => d.fnd K) = ds.map Dd.due ++ ss.map Sd.due := c2
  have a3 := (List.append_inj a2 (by simp)).2
  have e2 : (ss.map fun d => d.fnd K)[i]? = (ss.map Sd.due)[i]? := by rw [a3]
  rw [List.getElem?_map, List.getElem?_map, h] at e2
  exact ⟨Option.some.inj e2, List.all_eq_true.mp b4 d (List.mem_of_getElem? h)⟩
end
end Oh

namespace Law
open PySem PySem.Spec PyProof.Rows L2 Ox
def top (i : Nat) : Stmt := PySem.Challenge.pw_ownslips_k93_fraction_texts.main.body.getD i (.Pass ⟨0, 0, 0, 0⟩)
abbrev s_is_integer : Stmt := top 1
abbrev N_is_integer : List Str := ["thing"]
theorem sc_is_integer : FnScope N_is_integer ["thing"] (defScope s_is_integer) := ⟨rfl, rfl, rfl, by decide +kernel, rfl, by decide +kernel, by decide +kernel⟩
theorem bd_is_integer {K : PySem.W.Frag} {f : Addr} {fd : FuncData} (F : Fun K "is_integer" "is_integer" s_is_integer f fd) : Binds K fd ["thing"] [] := F.binds fun _ _ _ _ _ _ us hl => match us, hl with | [_], _ => rfl
abbrev s_is_pair : Stmt := top 2
abbrev N_is_pair : List Str := ["thing"]
theorem sc_is_pair : FnScope N_is_pair ["thing"] (defScope s_is_pair) := ⟨rfl, rfl, rfl, by decide +kernel, rfl, by decide +kernel, by decide +kernel⟩
theorem bd_is_pair {K : PySem.W.Frag} {f : Addr} {fd : FuncData} (F : Fun K "is_pair" "is_pair" s_is_pair f fd) : Binds K fd ["thing"] [] := F.binds fun _ _ _ _ _ _ us hl => match us, hl with | [_], _ => rfl
abbrev s_common_divisor : Stmt := top 3
abbrev N_common_divisor : List Str := ["one", "other"]
theorem sc_common_divisor : FnScope N_common_divisor ["one", "other"] (defScope s_common_divisor) := ⟨rfl, rfl, rfl, by decide +kernel, rfl, by decide +kernel, by decide +kernel⟩
theorem bd_common_divisor {K : PySem.W.Frag} {f : Addr} {fd : FuncData} (F : Fun K "common_divisor" "common_divisor" s_common_divisor f fd) : Binds K fd ["one", "other"] [] := F.binds fun _ _ _ _ _ _ us hl => match us, hl with | [_, _], _ => rfl
abbrev s_is_fraction : Stmt := top 4
abbrev N_is_fraction : List Str := ["thing"]
theorem sc_is_fraction : FnScope N_is_fraction ["thing"] (defScope s_is_fraction) := ⟨rfl, rfl, rfl, by decide +kernel, rfl, by decide +kernel, by decide +kernel⟩
theorem bd_is_fraction {K : PySem.W.Frag} {f : Addr} {fd : FuncData} (F : Fun K "is_fraction" "is_fraction" s_is_fraction f fd) : Binds K fd ["thing"] [] := F.binds fun _ _ _ _ _ _ us hl => match us, hl with | [_], _ => rfl
abbrev s_read_number : Stmt := top 9
abbrev N_read_number : List Str := ["word", "most", "digits", "char"]
theorem sc_read_number : FnScope N_read_number ["word", "most"] (defScope s_read_number) := ⟨rfl, rfl, rfl, by decide +kernel, rfl, by decide +kernel, by decide +kernel⟩
theorem bd_read_number {K : PySem.W.Frag} {f : Addr} {fd : FuncData} (F : Fun K "read_number" "read_number" s_read_number f fd) : Binds K fd ["word", "most"] [] := F.binds fun _ _ _ _ _ _ us hl => match us, hl with | [_, _], _ => rfl
abbrev s_read_fraction : Stmt := top 10
abbrev N_read_fraction : List Str := ["text", "parts", "found"]
theorem sc_read_fraction : FnScope N_read_fraction ["text"] (defScope s_read_fraction) := ⟨rfl, rfl, rfl, by decide +kernel, rfl, by decide +kernel, by decide +kernel⟩
theorem bd_read_fraction {K : PySem.W.Frag} {f : Addr} {fd : FuncData} (F : Fun K "read_fraction" "read_fraction" s_read_fraction f fd) : Binds K fd ["text"] [] := F.binds fun _ _ _ _ _ _ us hl => match us, hl with | [_], _ => rfl
abbrev s_fraction_text : Stmt := top 12
abbrev N_fraction_text : List Str := ["fraction"]
theorem sc_fraction_text : FnScope N_fraction_text ["fraction"] (defScope s_fraction_text) := ⟨rfl, rfl, rfl, by decide +kernel, rfl, by decide +kernel, by decide +kernel⟩
theorem bd_fraction_text {K : PySem.W.Frag} {f : Addr} {fd : FuncData} (F : Fun K "fraction_text" "fraction_text" s_fraction_text f fd) : Binds K fd ["fraction"] [] := F.binds fun _ _ _ _ _ _ us hl => match us, hl with | [_], _ => rfl
abbrev s_pool : Stmt := top 14
abbrev N_pool : List Str := ["_law_script", "_law_k", "_law_cell"]
theorem sc_pool : FnScope N_pool ["_law_script", "_law_k"] (defScope s_pool) := ⟨rfl, rfl, rfl, by decide +kernel, rfl, by decide +kernel, by decide +kernel⟩
theorem bd_pool {K : PySem.W.Frag} {f : Addr} {fd : FuncData} (F : Fun K "_law_pool" "_law_pool" s_pool f fd) : Binds K fd ["_law_script", "_law_k"] [] := F.binds fun _ _ _ _ _ _ us hl => match us, hl with | [_, _], _ => rfl
abbrev s_draw : Stmt := top 15
abbrev N_draw : List Str := ["_law_pool_here", "_law_many", "_law_number_here"]
theorem sc_draw : FnScope N_draw ["_law_pool_here", "_law_many"] (defScope s_draw) := ⟨rfl, rfl, rfl, by decide +kernel, rfl, by decide +kernel, by decide +kernel⟩
theorem bd_draw {K : PySem.W.Frag} {f : Addr} {fd : FuncData} (F : Fun K "_law_draw" "_law_draw" s_draw f fd) : Binds K fd ["_law_pool_here", "_law_many"] [] := F.binds fun _ _ _ _ _ _ us hl => match us, hl with | [_, _], _ => rfl
abbrev s_l_fraction_text : Stmt := top 16
abbrev N_l_fraction_text : List Str := ["_law_fraction_here"]
theorem sc_l_fraction_text : FnScope N_l_fraction_text ["_law_fraction_here"] (defScope s_l_fraction_text) := ⟨rfl, rfl, rfl, by decide +kernel, rfl, by decide +kernel, by decide +kernel⟩
theorem bd_l_fraction_text {K : PySem.W.Frag} {f : Addr} {fd : FuncData} (F : Fun K "_law_fraction_text" "_law_fraction_text" s_l_fraction_text f fd) : Binds K fd ["_law_fraction_here"] [] := F.binds fun _ _ _ _ _ _ us hl => match us, hl with | [_], _ => rfl
abbrev s_l_divisor : Stmt := top 17
abbrev N_l_divisor : List Str := ["_law_one", "_law_other", "_law_k", "_law_left"]
theorem sc_l_divisor : FnScope N_l_divisor ["_law_one", "_law_other"] (defScope s_l_divisor) := ⟨rfl, rfl, rfl, by decide +kernel, rfl, by decide +kernel, by decide +kernel⟩
theorem bd_l_divisor {K : PySem.W.Frag} {f : Addr} {fd : FuncData} (F : Fun K "_law_divisor" "_law_divisor" s_l_divisor f fd) : Binds K fd ["_law_one", "_law_other"] [] := F.binds fun _ _ _ _ _ _ us hl => match us, hl with | [_, _], _ => rfl
abbrev s_l_fraction : Stmt := top 18
abbrev N_l_fraction : List Str := ["_law_top", "_law_bottom", "_law_divisor_here"]
theorem sc_l_fraction : FnScope N_l_fraction ["_law_top", "_law_bottom"] (defScope s_l_fraction) := ⟨rfl, rfl, rfl, by decide +kernel, rfl, by decide +kernel, by decide +kernel⟩
theorem bd_l_fraction {K : PySem.W.Frag} {f : Addr} {fd : FuncData} (F : Fun K "_law_fraction" "_law_fraction" s_l_fraction f fd) : Binds K fd ["_law_top", "_law_bottom"] [] := F.binds fun _ _ _ _ _ _ us hl => match us, hl with | [_, _], _ => rfl
abbrev s_l_is_integer : Stmt := top 19
abbrev N_l_is_integer : List Str := ["_law_thing"]
theorem sc_l_is_integer : FnScope N_l_is_integer ["_law_thing"] (defScope s_l_is_integer) := ⟨rfl, rfl, rfl, by decide +kernel, rfl, by decide +kernel, by decide +kernel⟩
theorem bd_l_is_integer {K : PySem.W.Frag} {f : Addr} {fd : FuncData} (F : Fun K "_law_is_integer" "_law_is_integer" s_l_is_integer f fd) : Binds K fd ["_law_thing"] [] := F.binds fun _ _ _ _ _ _ us hl => match us, hl with | [_], _ => rfl
abbrev s_l_great : Stmt := top 20
abbrev N_l_great : List Str := ["_law_pool_here", "_law_number_here", "_law_k"]
theorem sc_l_great : FnScope N_l_great ["_law_pool_here"] (defScope s_l_great) := ⟨rfl, rfl, rfl, by decide +kernel, rfl, by decide +kernel, by decide +kernel⟩
theorem bd_l_great {K : PySem.W.Frag} {f : Addr} {fd : FuncData} (F : Fun K "_law_great" "_law_great" s_l_great f fd) : Binds K fd ["_law_pool_here"] [] := F.binds fun _ _ _ _ _ _ us hl => match us, hl with | [_], _ => rfl
abbrev s_l_amount : Stmt := top 21
abbrev N_l_amount : List Str := ["_law_pool_here", "_law_sort", "_law_sign"]
theorem sc_l_amount : FnScope N_l_amount ["_law_pool_here"] (defScope s_l_amount) := ⟨rfl, rfl, rfl, by decide +kernel, rfl, by decide +kernel, by decide +kernel⟩
theorem bd_l_amount {K : PySem.W.Frag} {f : Addr} {fd : FuncData} (F : Fun K "_law_amount" "_law_amount" s_l_amount f fd) : Binds K fd ["_law_pool_here"] [] := F.binds fun _ _ _ _ _ _ us hl => match us, hl with | [_], _ => rfl
abbrev s_l_number : Stmt := top 22
abbrev N_l_number : List Str := ["_law_word", "_law_most", "_law_digits_here", "_law_char"]
theorem sc_l_number : FnScope N_l_number ["_law_word", "_law_most"] (defScope s_l_number) := ⟨rfl, rfl, rfl, by decide +kernel, rfl, by decide +kernel, by decide +kernel⟩
theorem bd_l_number {K : PySem.W.Frag} {f : Addr} {fd : FuncData} (F : Fun K "_law_number" "_law_number" s_l_number f fd) : Binds K fd ["_law_word", "_law_most"] [] := F.binds fun _ _ _ _ _ _ us hl => match us, hl with | [_, _], _ => rfl
abbrev s_l_digits : Stmt := top 23
abbrev N_l_digits : List Str := ["_law_pool_here", "_law_size", "_law_text_here", "_law_k"]
theorem sc_l_digits : FnScope N_l_digits ["_law_pool_here"] (defScope s_l_digits) := ⟨rfl, rfl, rfl, by decide +kernel, rfl, by decide +kernel, by decide +kernel⟩
theorem bd_l_digits {K : PySem.W.Frag} {f : Addr} {fd : FuncData} (F : Fun K "_law_digits" "_law_digits" s_l_digits f fd) : Binds K fd ["_law_pool_here"] [] := F.binds fun _ _ _ _ _ _ us hl => match us, hl with | [_], _ => rfl
abbrev s_l_part : Stmt := top 24
abbrev N_l_part : List Str := ["_law_pool_here", "_law_sort"]
theorem sc_l_part : FnScope N_l_part ["_law_pool_here"] (defScope s_l_part) := ⟨rfl, rfl, rfl, by decide +kernel, rfl, by decide +kernel, by decide +kernel⟩
theorem bd_l_part {K : PySem.W.Frag} {f : Addr} {fd : FuncData} (F : Fun K "_law_part" "_law_part" s_l_part f fd) : Binds K fd ["_law_pool_here"] [] := F.binds fun _ _ _ _ _ _ us hl => match us, hl with | [_], _ => rfl
abbrev s_l_text : Stmt := top 25
abbrev N_l_text : List Str := ["_law_pool_here", "_law_sort", "_law_text_here", "_law_part_here", "_law_at", "_law_sign", "_law_way"]
theorem sc_l_text : FnScope N_l_text ["_law_pool_here"] (defScope s_l_text) := ⟨rfl, rfl, rfl, by decide +kernel, rfl, by decide +kernel, by decide +kernel⟩
theorem bd_l_text {K : PySem.W.Frag} {f : Addr} {fd : FuncData} (F : Fun K "_law_text" "_law_text" s_l_text f fd) : Binds K fd ["_law_pool_here"] [] := F.binds fun _ _ _ _ _ _ us hl => match us, hl with | [_], _ => rfl
abbrev s_l_due : Stmt := top 26
abbrev N_l_due : List Str := ["_law_text_here", "_law_parts", "_law_top", "_law_bottom"]
theorem sc_l_due : FnScope N_l_due ["_law_text_here"] (defScope s_l_due) := ⟨rfl, rfl, rfl, by decide +kernel, rfl, by decide +kernel, by decide +kernel⟩
theorem bd_l_due {K : PySem.W.Frag} {f : Addr} {fd : FuncData} (F : Fun K "_law_due" "_law_due" s_l_due f fd) : Binds K fd ["_law_text_here"] [] := F.binds fun _ _ _ _ _ _ us hl => match us, hl with | [_], _ => rfl
abbrev s_l_told : Stmt := top 27
abbrev N_l_told : List Str := ["_law_thing", "_law_found", "e"]
theorem sc_l_told : FnScope N_l_told ["_law_thing"] (defScope s_l_told) := ⟨rfl, rfl, rfl, by decide +kernel, rfl, by decide +kernel, by decide +kernel⟩
theorem bd_l_told {K : PySem.W.Frag} {f : Addr} {fd : FuncData} (F : Fun K "_law_told" "_law_told" s_l_told f fd) : Binds K fd ["_law_thing"] [] := F.binds fun _ _ _ _ _ _ us hl => match us, hl with | [_], _ => rfl
abbrev s_law : Stmt := top 28
abbrev N_law : List Str := ["_law_script", "_law_pool_here", "_law_k", "_law_text_here", "_law_due_here", "_law_part_here", "_law_told_here", "_law_found", "_law_things"]
theorem sc_law : FnScope N_law ["_law_script"] (defScope s_law) := ⟨rfl, rfl, rfl, by decide +kernel, rfl, by decide +kernel, by decide +kernel⟩
theorem bd_law {K : PySem.W.Frag} {f : Addr} {fd : FuncData} (F : Fun K "law" "law" s_law f fd) : Binds K fd ["_law_script"] [] := F.binds fun _ _ _ _ _ _ us hl => match us, hl with | [_], _ => rfl
end Law
/-! the head -/
namespace Law
open PySem PySem.Spec PyProof.Rows L2 Ox
def d_law : Oh.Dd := ⟨fun K => He.ga K "law", "law", "law", s_law⟩
def d_pool : Oh.Dd := ⟨fun K => He.ga K "_law_pool", "_law_pool", "_law_pool", s_pool⟩
def d_draw : Oh.Dd := ⟨fun K => He.ga K "_law_draw", "_law_draw", "_law_draw", s_draw⟩
def d_l_text : Oh.Dd := ⟨fun K => He.ga K "_law_text", "_law_text", "_law_text", s_l_text⟩
def d_l_part : Oh.Dd := ⟨fun K => He.ga K "_law_part", "_law_part", "_law_part", s_l_part⟩
def d_l_digits : Oh.Dd := ⟨fun K => He.ga K "_law_digits", "_law_digits", "_law_digits", s_l_digits⟩
def d_l_amount : Oh.Dd := ⟨fun K => He.ga K "_law_amount", "_law_amount", "_law_amount", s_l_amount⟩
def d_l_great : Oh.Dd := ⟨fun K => He.ga K "_law_great", "_law_great", "_law_great", s_l_great⟩
def d_l_fraction : Oh.Dd := ⟨fun K => He.ga K "_law_fraction", "_law_fraction", "_law_fraction", s_l_fraction⟩
def d_l_divisor : Oh.Dd := ⟨fun K => He.ga K "_law_divisor", "_law_divisor", "_law_divisor", s_l_divisor⟩
def d_l_fraction_text : Oh.Dd := ⟨fun K => He.ga K "_law_fraction_text", "_law_fraction_text", "_law_fraction_text", s_l_fraction_text⟩
def d_l_due : Oh.Dd := ⟨fun K => He.ga K "_law_due", "_law_due", "_law_due", s_l_due⟩
def d_l_number : Oh.Dd := ⟨fun K => He.ga K "_law_number", "_law_number", "_law_number", s_l_number⟩
def d_l_told : Oh.Dd := ⟨fun K => He.ga K "_law_told", "_law_told", "_law_told", s_l_told⟩
def d_read_fraction : Oh.Dd := ⟨fun K => He.ga K "read_fraction", "read_fraction", "read_fraction", s_read_fraction⟩
def d_read_number : Oh.Dd := ⟨fun K => He.ga K "read_number", "read_number", "read_number", s_read_number⟩
def d_is_fraction : Oh.Dd := ⟨fun K => He.ga K "is_fraction", "is_fraction", "is_fraction", s_is_fraction⟩
def d_common_divisor : Oh.Dd := ⟨fun K => He.ga K "common_divisor", "common_divisor", "common_divisor", s_common_divisor⟩
def d_is_pair : Oh.Dd := ⟨fun K => He.ga K "is_pair", "is_pair", "is_pair", s_is_pair⟩
def d_is_integer : Oh.Dd := ⟨fun K => He.ga K "is_integer", "is_integer", "is_integer", s_is_integer⟩
def d_l_is_integer : Oh.Dd := ⟨fun K => He.ga K "_law_is_integer", "_law_is_integer", "_law_is_integer", s_l_is_integer⟩
def d_fraction_text : Oh.Dd := ⟨fun K => He.ga K "fraction_text", "fraction_text", "fraction_text", s_fraction_text⟩
abbrev ds0 : List Oh.Dd := [d_law, d_pool, d_draw, d_l_text, d_l_part, d_l_digits, d_l_amount, d_l_great, d_l_fraction, d_l_divisor, d_l_fraction_text, d_l_due, d_l_number, d_l_told, d_read_fraction, d_read_number, d_is_fraction, d_common_divisor, d_is_pair, d_is_integer, d_l_is_integer, d_fraction_text]
abbrev dsA : List Oh.Dd := ds0
abbrev fa0 : List (Oh.Frag → Bool) := [Oh.fo (.glo "law"), Oh.fo (.free "range"), Oh.fo (.free "tuple"), Oh.fo (.free "isinstance"), Oh.fo (.free "len"), Oh.fo (.free "int"), Oh.fo (.glo "_law_pool"), Oh.fo (.glo "_law_draw"), Oh.fo (.free "str"), Oh.fo (.glo "_law_digits"), Oh.fo (.glo "_law_part"), Oh.fo (.glo "_law_great"), Oh.fo (.free "abs"), Oh.fo (.glo "_law_divisor"), Oh.fo (.glo "_law_fraction"), Oh.fo (.glo "_law_amount"), Oh.fo (.glo "_law_fraction_text"), Oh.fo (.glo "_law_text"), Oh.fo (.free "all"), Oh.fo (.glo "_law_number"), Oh.fo (.glo "_law_due"), Oh.fo (.glo "read_number"), Oh.fo (.glo "common_divisor"), Oh.fo (.glo "is_pair"), Oh.fo (.free "bool"), Oh.fo (.glo "is_integer"), Oh.fo (.glo "is_fraction"), Oh.fo (.glo "BadText"), Oh.fo (.free "super"), Oh.supB "BadText" "line"]
abbrev fa1 : List (Oh.Frag → Bool) := [Oh.fo (.glo "read_fraction"), Oh.fo (.glo "OwnError"), exmF "BadText" "OwnError" true, kitF "BadText" "BadText" true, excCF "BadText", Oh.fo (.glo "_law_told"), Oh.fo (.glo "_law_is_integer"), Oh.fo (.glo "fraction_text")]
abbrev faA : List (Oh.Frag → Bool) := fa0 ++ fa1
abbrev lo0 : List Str := ["is_integer", "is_pair", "common_divisor", "is_fraction", "OwnError", "BadText", "read_number", "read_fraction", "fraction_text", "_law_pool", "_law_draw", "_law_fraction_text", "_law_divisor", "_law_fraction", "_law_is_integer", "_law_great", "_law_amount", "_law_number", "_law_digits", "_law_part", "_law_text", "_law_due", "_law_told"]
abbrev loA : List Str := lo0
def u_BadText : Oh.Sd := ⟨"BadText", "line", "BadText.__init__", inClass (top 7) 0⟩
abbrev ssA : List Oh.Sd := [u_BadText]
abbrev Rw : PySem.W.OpenRow := PySem.W.OpenLaw.row PySem.Challenge.rw_ownslips_k93_fraction_texts
abbrev hk : PySem.W.Hook := Oh.hook2 8 "/claim/cut.py" faA dsA ssA
def ob (s : PySem.W.SharedT) : Oh.Ob := Oh.obT2 8 "/claim/cut.py" faA dsA ssA s
theorem ob_eq (s : PySem.W.SharedT) : ob s = hk.obs s.abs := Oh.obT2_eq s
theorem run (w : World) : HandSHeadRun.RunEq Rw (PySem.W.view Rw.prog [28]) hk ob 6000 loA w := by
  intro os
  kernel_rfl
end Law

namespace Law
open PySem PySem.Spec PyProof.Rows L2 Ox
local macro_rules | `(tactic| walk_at "hp") => `(tactic| first
  | assumption
  | exact upd_same
  | (refine (upd_ne ?_).trans ?_; (walk_at "ne"); (walk_at "hp")))
local macro_rules | `(tactic| walk_at "ne") => `(tactic| first
  | assumption
  | exact Ne.symm (by assumption)
  | exact ne_old (by assumption) (by walk_at "hp")
  | exact Ne.symm (ne_old (by assumption) (by walk_at "hp"))
  | exact ne_two (by walk_at "hp") (by walk_at "hp") (by intro z; cases z)
  | exact fun z => absurd z (by decide))
local macro_rules | `(tactic| walk_at "kd") => `(tactic| first
  | exact .non
  | exact .bl _
  | exact .int _
  | exact .str _
  | assumption
  | exact .lst (SqL.of (by walk_at "hp"))
  | exact .tup (SqT.of (by walk_at "hp"))
  | exact .dict (.inl (by walk_at "hp")))
local macro_rules | `(tactic| walk_at "cond") => `(tactic| first
  | omega
  | exact mulok_r (by omega) (by omega)
  | exact mulok_l (by omega) (by omega)
  | exact divok (by omega) (by omega)
  | exact divok2 (by omega) (by omega)
  | exact ⟨by omega, by decide +kernel⟩
  | decide +kernel)
local macro_rules | `(tactic| walk_at "go") => `(tactic| repeat (first
  | (with_reducible refine x_seq ?_)
  | (with_reducible refine x_next ?_)
  | (with_reducible refine x_brk ?_)
  | (with_reducible refine x_cont ?_)
  | (with_reducible refine x_ret ?_)
  | (with_reducible refine x_retN ?_)
  | (with_reducible refine x_set ?_)
  | (with_reducible refine x_if ?_)
  | (with_reducible refine x_drop ?_)
  | (with_reducible refine x_par ?_)
  | (with_reducible refine x_par2 ?_)
  | (with_reducible refine x_setL ?_)
  | ((with_reducible refine' x_var ?xh ?_); (case xh => exact rfl))
  | ((with_reducible refine' x_aug ?xh ?_); (case xh => exact rfl))
  | (with_reducible refine x_c ?_)
  | (with_reducible refine x_op ?_)
  | (with_reducible refine x_un ?_)
  | (with_reducible refine x_I0 ?_)
  | (with_reducible refine x_ipI ?_)
  | ((with_reducible refine x_I ?xh ?_); (case xh => walk_at "cond"))
  | (with_reducible refine x_U ?_)
  | (with_reducible refine x_eqI ?_)
  | (with_reducible refine x_eqS ?_)
  | (with_reducible refine x_eqB ?_)
  | (with_reducible refine x_neI ?_)
  | (with_reducible refine x_neS ?_)
  | (with_reducible refine x_neB ?_)
  | (with_reducible refine x_blV ?_)
  | (with_reducible refine x_bl ?_)
  | (with_reducible refine x_test ?_)
  | (with_reducible refine x_B ?_)
  | (with_reducible refine x_not ?_)
  | (with_reducible refine x_and ?_)
  | (with_reducible refine x_or ?_)
  | (with_reducible refine x_andV ?_)
  | (with_reducible refine x_orV ?_)
  | (with_reducible refine x_notV ?_)
  | (with_reducible refine x_ifE ?_)
  | (with_reducible refine x_chain ?_)
  | (with_reducible refine x_nil ?_)
  | (with_reducible refine x_cons ?_)
  | (with_reducible refine x_tup ?_)
  | (with_reducible refine x_lst ?_)
  | (with_reducible refine x_cb ?_)
  | (with_reducible refine x_call ?_)
  | (with_reducible refine x_make ?_)
  | (with_reducible refine x_Fld ?_)
  | (with_reducible refine x_forL ?_)
  | (with_reducible refine x_forT ?_)
  | (with_reducible refine x_forR ?_)
  | (with_reducible refine x_forR2 ?_)
  | (with_reducible refine x_forS ?_)
  | (with_reducible refine x_forK ?_)
  | (with_reducible refine x_forI ?_)
  | (with_reducible refine x_forV ?_)
  | (with_reducible refine x_g1 ?_)
  | (with_reducible refine x_lc ?_)
  | (with_reducible refine x_dc ?_)
  | (with_reducible refine x_yes1 ?_)
  | (with_reducible refine x_iK ?_)
  | (with_reducible refine x_iV ?_)
  | (with_reducible refine x_iI ?_)
  | (with_reducible refine x_iL ?_)
  | (with_reducible refine x_iT ?_)
  | (with_reducible refine x_iS ?_)
  | (with_reducible refine x_iR ?_)
  | (with_reducible refine x_dget ?_)
  | (with_reducible refine x_din ?_)
  | (with_reducible refine x_dnin ?_)
  | (with_reducible refine x_dput ?_)
  | (with_reducible refine x_newK ?_)
  | (with_reducible refine x_listV ?_)
  | (with_reducible refine x_sfld ?_)
  | (with_reducible refine x_revL ?_)
  | (with_reducible refine x_prop ?_)
  | (with_reducible refine x_sl ?_)
  | (with_reducible refine x_forE ?_)
  | (with_reducible refine x_mt ?_)
  | (with_reducible refine x_nopart ?_)
  | (with_reducible refine x_part ?_)
  | (with_reducible refine x_parti ?_)
  | (with_reducible refine x_bm ?_)
  | (with_reducible refine x_bm0 ?_)
  | (with_reducible refine x_intI ?_)
  | (with_reducible refine x_max2 ?_)
  | (with_reducible refine x_min2 ?_)
  | (with_reducible refine x_abs ?_)
  | (with_reducible refine x_isN ?_)
  | (with_reducible refine x_notN ?_)
  | (with_reducible refine x_inS ?_)
  | (with_reducible refine x_ninS ?_)
  | (with_reducible refine x_T ?_)
  | (with_reducible refine x_F ?_)
  | (with_reducible refine x_nT ?_)
  | (with_reducible refine x_nF ?_)
  | ((with_reducible refine' x_lenL ?xh ?_); (case xh => exact SqL.of (by walk_at "hp")))
  | ((with_reducible refine' x_tyL ?xh ?_); (case xh => exact SqL.of (by walk_at "hp")))
  ))
/-! ### a list over a range, ends of an if -/
theorem lcR {D : Addr} {g : TG} {tt : TT} {te : TE} {vs : List Nat} {σ : L2.St} {H : Hp} {Qd : Hp → Prop} {m : Nat} (Pv : Nat → Hp → Prop) (h0 : Pv 0 (upd H D (.lst [])))
    (hs : ∀ i H, i < m → Pv i H → g (.int (i : Int)) (wipe σ vs) H fun σ2 H2 => wipe σ2 vs = wipe σ vs ∧ tt σ2 H2 fun b H3 =>
      if b = true then te σ2 H3 fun y H4 => ∃ acc, H4 D = some (.lst acc) ∧ acc.length < sizeLine ∧ Pv (i + 1) (upd H4 D (.lst (acc ++ [y]))) else Pv (i + 1) H3) (hd : ∀ H, Pv m H → Qd H) : LcP (Itr 0 m) g tt te vs σ D Qd H :=
  lc_by walk_range Pv h0 (fun _ _ _ _ => trivial) (fun i x H H' hi hp y => by
    obtain ⟨rfl, rfl⟩ := y
    dsimp only
    rw [Int.zero_add]
    exact hs i _ hi hp) hd
/-- both ends of an if go on alike -/
theorem if_join {α : Type} {c : TT} {t e : TS} {n : L2.St → Hp → Prop} {r : VK} {b k : L2.St → Hp → Prop} {σ : L2.St} {H : Hp} (S : α → Prop) (f : α → L2.St) (h : ∀ n' : L2.St → Hp → Prop, (∀ a, S a → n' (f a) H) → tIfS c t e ⟨n', r, b, k⟩ σ H) (hn : ∀ a, S a → n (f a) H) : tIfS c t e ⟨n, r, b, k⟩ σ H := h n hn
theorem if_joinH {α : Type} {c : TT} {t e : TS} {n : L2.St → Hp → Prop} {r : VK} {b k : L2.St → Hp → Prop} {σ : L2.St} {H : Hp} (S : α → Hp → Prop) (f : α → L2.St) (h : ∀ n' : L2.St → Hp → Prop, (∀ a H', S a H' → n' (f a) H') → tIfS c t e ⟨n', r, b, k⟩ σ H) (hn : ∀ a H', S a H' → n (f a) H') : tIfS c t e ⟨n, r, b, k⟩ σ H := h n hn
/-! ### family C: a drawer; nothing is said of what is drawn but its bounds -/
abbrev intsV (ns : List Int) : List V := ns.map V.int
def PoolAt (H : Hp) (p : Addr) : Prop := ∃ (c : Int) (f : Bool) (s n : Int), H p = some (.lst [.int c, .bl f, .int s, .int n])
def spOpen (K : PySem.W.Frag) : Sp := fun vs H Q _ => ∃ (a : Addr) (ns : List Int) (k : Int), vs = [.ref a, .int k] ∧ SqL K H a (intsV ns) ∧ ns.length ≤ 63 ∧ 0 ≤ k ∧ k ≤ 100 ∧
  ∀ H' p, L2.Same H H' → H p = none → PoolAt H' p → Q (.ref p) H'
def spDraw : Sp := fun vs H Q _ => ∃ (p : Addr) (m : Int), vs = [.ref p, .int m] ∧ PoolAt H p ∧ 0 < m ∧ m < 2 ^ 200 ∧
  ∀ H' r, But p H H' → PoolAt H' p → 0 ≤ r → r < m → Q (.int r) H'
theorem intsV_at {ns : List Int} {j : Nat} {z : Int} (h : ns[j]? = some z) : atI (intsV ns) (j : Int) = some (.int z) := atI_nat (by rw [List.getElem?_map, h]; rfl)
section
variable {P : Program} {w : World} {K : PySem.W.Frag} {mg : Str → Option Value} {base : Heap}
theorem ok_draw {f : Addr} {fd : FuncData} (F : Fun K "_law_draw" "_law_draw" s_draw f fd) (Z_int : mg "int" = none) : FnOk P w K mg base CX0 1 f fd ["_law_pool_here", "_law_many"] spDraw := by
  refine F.ok sc_draw (fun vs H Q E h => ?_) (fun cdv A outer s H vs Q E hr h => ?_)
  · obtain ⟨_, _, rfl, _⟩ := h
    rfl
  · obtain ⟨p, m, rfl, ⟨c, fl, sd, n, hp⟩, hm, hm2, k⟩ := h
    refine ⟨_, (pss_cons (ps_if (PW.pt (pw_and (pt_val (pe_ix ix_list (pv 0) pe_int (fun _ _ => rfl))) (pw_and1 (pt_cmpR op_gt (pe_ix ix_list (pv 0) pe_int (fun _ _ => rfl)) pe_int (nomark _)))))
      (pss_cons (ps_set (i := 2) sc_draw.nd rfl (Or.inl rfl) (pe_op op_mod (pe_callTy call_intA (by rfl) Z_int (by decide +kernel) (pa_cons (pe_ix ix_list (pv 0) pe_int (fun _ _ => rfl)) pa_nil)) (pv 1)))
      (pss_cons (ps_asg (pe_op op_fdivA (pe_callTy call_intA (by rfl) Z_int (by decide +kernel) (pa_cons (pe_ix ix_list (pv 0) pe_int (fun _ _ => rfl)) pa_nil)) (pv 1)) (pg_sub (pv 0) pe_int set_list))
      (pss_one (ps_ret (pv 2)))))
      pss_nil)
      (pss_cons (ps_asg (pe_op op_add (pe_ix ix_list (pv 0) pe_int (fun _ _ => rfl)) pe_int) (pg_sub (pv 0) pe_int set_list))
      (pss_cons (ps_set (i := 2) sc_draw.nd rfl (Or.inl rfl) (pe_op op_mod (pe_callTy call_intA (by rfl) Z_int (by decide +kernel) (pa_cons (pe_op op_mulA (pe_op op_add (pe_op op_add (pe_ix ix_list (pv 0) pe_int (fun _ _ => rfl)) (pe_op op_mulA pe_int (pe_ix ix_list (pv 0) pe_int (fun _ _ => rfl)))) pe_int) pe_int) pa_nil)) pe_int))
      (pss_cons (ps_set (i := 2) sc_draw.nd rfl (Or.inl rfl) (pe_op op_mod (pe_callTy call_intA (by rfl) Z_int (by decide +kernel) (pa_cons (pe_op op_mulA (pv 2) (pe_op op_add (pe_op op_fdivA (pv 2) pe_int) pe_int)) pa_nil)) pe_int))
      (pss_cons (ps_set (i := 2) sc_draw.nd rfl (Or.inl rfl) (pe_op op_mod (pe_callTy call_intA (by rfl) Z_int (by decide +kernel) (pa_cons (pe_op op_mulA (pv 2) (pe_op op_add (pe_op op_fdivA (pv 2) pe_int) pe_int)) pa_nil)) pe_int))
      (pss_one (ps_ret (pe_op op_mod (pe_callTy call_intA (by rfl) Z_int (by decide +kernel) (pa_cons (pe_op op_fdivA (pv 2) pe_int) pa_nil)) (pv 1))))))))), ?_⟩
    have fin : ∀ (r : Int) (H' : Hp), But p H H' → PoolAt H' p → Q (.int (r % m)) H' := fun r H' b pp => k H' _ b pp (Int.emod_nonneg _ (by omega)) (Int.emod_lt_of_pos _ hm)
    refine x_seq ?_
    refine if_joinH (α := Unit) (fun _ H' => H' = H) (fun _ => [some (.ref p), some (.int m), none]) (fun n' hn' => ?_) ?_
    · walk_at "go"
      refine x_ixl 1 (SqL.of hp) rfl rfl ?_
      walk_at "go"
      cases fl with
      | false =>
        walk_at "go"
        exact hn' () H rfl
      | true =>
        walk_at "go"
        refine x_ixl 0 (SqL.of hp) rfl rfl ?_
        walk_at "go"
        refine x_dec (fun hc => ?_) (fun hc => ?_)
        · walk_at "go"
          refine x_ixl 0 (SqL.of hp) rfl rfl ?_
          walk_at "go"
          refine x_ixl 0 (SqL.of hp) rfl rfl ?_
          walk_at "go"
          refine x_setl (j := 0) hp rfl (by simp) ?_
          walk_at "go"
          exact fin c _ (But.refl.at_) ⟨_, _, _, _, upd_same⟩
        · walk_at "go"
          exact hn' () H rfl
    · rintro ⟨⟩ H' rfl
      walk_at "go"
      refine x_ixl 3 (SqL.of hp) rfl rfl ?_
      walk_at "go"
      refine x_setl (j := 3) hp rfl (by simp) ?_
      walk_at "go"
      refine x_ixl 2 (SqL.of upd_same) rfl rfl ?_
      walk_at "go"
      refine x_ixl 3 (SqL.of upd_same) rfl rfl ?_
      walk_at "go"
      exact fin _ _ (But.refl.at_) ⟨_, _, _, _, upd_same⟩
end
theorem PoolAt.upd {H : Hp} {p q : Addr} {o : HO} (h : PoolAt H p) (n : p ≠ q) : PoolAt (upd H q o) p := by
  obtain ⟨c, f, s, k, e⟩ := h
  exact ⟨c, f, s, k, by rw [upd_ne n]; exact e⟩
theorem PoolAt.new {H : Hp} {p q : Addr} {o : HO} (h : PoolAt H p) (n : H q = none) : PoolAt (L2.upd H q o) p := by
  obtain ⟨c, f, s, k, e⟩ := h
  exact ⟨c, f, s, k, by rw [upd_ne (ne_of_none e n)]; exact e⟩
theorem PoolAt.ne {H : Hp} {p q : Addr} (h : PoolAt H p) (n : H q = none) : q ≠ p := by
  obtain ⟨c, f, s, k, e⟩ := h
  exact fun z => by rw [z, e] at n; cases n
theorem PoolAt.same {H H' : Hp} {p : Addr} (h : PoolAt H p) (s : L2.Same H H') : PoolAt H' p := by
  obtain ⟨c, f, sd, k, e⟩ := h
  exact ⟨c, f, sd, k, s _ _ e⟩
theorem PoolAt.ned {H : Hp} {p d : Addr} {kvs : List (Key × V)} (h : PoolAt H p) (n : H d = some (.dK kvs)) : d ≠ p := by
  obtain ⟨c, f, s, k, e⟩ := h
  exact fun z => by rw [z, e] at n; cases n
def Side (e : Int) (l : List (Str × Int)) : Prop := (∀ p ∈ l, e ≤ p.2) ∨ (∀ p ∈ l, p.2 ≤ e)
/-! ### names -/
def lowC (d : Nat) : Prop := 97 ≤ d ∧ d ≤ 122
def sgnC (d : Nat) : Prop := (97 ≤ d ∧ d ≤ 122) ∨ (48 ≤ d ∧ d ≤ 57)
instance (d : Nat) : Decidable (lowC d) := inferInstanceAs (Decidable (_ ∧ _))
instance (d : Nat) : Decidable (sgnC d) := inferInstanceAs (Decidable (_ ∨ _))
/-- a name's signs -/
def NameL (l : List Nat) : Prop := ∃ d r, l = d :: r ∧ lowC d ∧ r.length ≤ 7 ∧ ∀ e ∈ r, sgnC e
def NameS (z : Str) : Prop := NameL z.cps.toList
theorem str_len (z : Str) : z.length = z.cps.toList.length := by show z.cps.size = _; simp
theorem tl_app (x y : Str) : (x ++ y).cps.toList = x.cps.toList ++ y.cps.toList := TL.tl_append x y
theorem NameS.len {z : Str} (h : NameS z) : z.length ≤ 8 := by
  obtain ⟨d, r, e, _, hl, _⟩ := h
  rw [str_len, e]
  simp
  omega
theorem letters_at : ∀ j < 26, ("abcdefghijklmnopqrstuvwxyz" : Str).cps.toList[j]? = some (97 + j) := by decide +kernel
theorem signs_at : ∀ j < 36, ∃ d, (("abcdefghijklmnopqrstuvwxyz" : Str) ++ ("0123456789" : Str)).cps.toList[j]? = some d ∧ sgnC d := by
  have h : ∀ j < 36, ((("abcdefghijklmnopqrstuvwxyz" : Str) ++ ("0123456789" : Str)).cps.toList[j]?).any (fun d => decide (sgnC d)) = true := by decide +kernel
  intro j hj
  have h1 := h j hj
  cases e : (("abcdefghijklmnopqrstuvwxyz" : Str) ++ ("0123456789" : Str)).cps.toList[j]? with
  | none => rw [e] at h1; cases h1
  | some d => rw [e] at h1; exact ⟨d, rfl, of_decide_eq_true h1⟩
/-! ### several names, all different -/
def nmS (t : Nat) : Str := ("n" : Str) ++ Str.ofString (toString ((t : Nat) : Int))
theorem nmS_tl (t : Nat) : (nmS t).cps.toList = 110 :: TL.numL t := by
  unfold nmS
  rw [tl_app]
  have e : ("n" : Str).cps.toList = [110] := by decide +kernel
  rw [e]
  show 110 :: _ = _
  exact congrArg (List.cons 110) (TL.tl_num t)
theorem nmS_inj {a b : Nat} (h : nmS a = nmS b) : a = b := by
  have e := congrArg (fun z : Str => z.cps.toList) h
  simp only [nmS_tl, List.cons.injEq, true_and] at e
  exact TL.numL_inj e
theorem nmS_name {t : Nat} (h : t < 1000000) : NameS (nmS t) := by
  refine ⟨110, TL.numL t, nmS_tl t, ⟨by omega, by omega⟩, ?_, fun e he => ?_⟩
  · exact Nat.le_trans (TL.numL_len (k := 6) (by decide) (by simpa using h)) (by decide)
  · have := TL.numL_digits t e he
    exact .inr ⟨this.1, this.2⟩
abbrev strsV (ws : List Str) : List V := ws.map V.str
/-! ### integers and names -/
def isIntK : Kn → Bool
  | .int => true
  | _ => false
def nameL : List Nat → Bool
  | [] => false
  | d :: r => decide (r.length ≤ 7) && (decide (lowC d) && r.all fun e => decide (sgnC e))
def nameV : V → Bool
  | .str z => nameL z.cps.toList
  | _ => false
theorem nameL_iff {l : List Nat} : nameL l = true ↔ NameL l := by
  cases l with
  | nil =>
    refine ⟨fun h => (by cases h), fun h => ?_⟩
    obtain ⟨d, r, e, _⟩ := h
    cases e
  | cons d r =>
    show (decide (r.length ≤ 7) && (decide (lowC d) && r.all fun e => decide (sgnC e))) = true ↔ _
    rw [Bool.and_eq_true, Bool.and_eq_true, decide_eq_true_iff, decide_eq_true_iff, List.all_eq_true]
    refine ⟨fun ⟨h1, h2, h3⟩ => ⟨d, r, rfl, h2, h1, fun e he => of_decide_eq_true (h3 e he)⟩, fun h => ?_⟩
    obtain ⟨d', r', e, h2, h1, h3⟩ := h
    injection e with e1 e2
    subst e1 e2
    exact ⟨h1, h2, fun e he => decide_eq_true (h3 e he)⟩
theorem NameS.v {z : Str} (h : NameS z) : nameV (.str z) = true := nameL_iff.mpr h
/-- a value of a known kind; a text not too long -/
def Fine (K : PySem.W.Frag) (H : Hp) (x : V) (k : Kn) : Prop := Kd K H x k ∧ ∀ z, x = .str z → z.length ≤ 10000
def spIsInt (K : PySem.W.Frag) : Sp := fun vs H Q _ => ∃ x k, vs = [x] ∧ Kd K H x k ∧ Q (.bl (isIntK k)) H
def spIsName (K : PySem.W.Frag) : Sp := fun vs H Q _ => ∃ x k, vs = [x] ∧ Fine K H x k ∧ Q (.bl (nameV x)) H
section
variable {P : Program} {w : World} {K : PySem.W.Frag} {mg : Str → Option Value} {base : Heap}
theorem ok_is_integer {f : Addr} {fd : FuncData} (F : Fun K "is_integer" "is_integer" s_is_integer f fd) (Z_int : mg "int" = none) (Z_bool : mg "bool" = none) (Z_isinstance : mg "isinstance" = none) : FnOk P w K mg base CX0 1 f fd ["thing"] (spIsInt K) := by
  refine F.ok sc_is_integer (fun vs H Q E h => ?_) (fun cdv A outer s H vs Q E hr h => ?_)
  · obtain ⟨_, _, rfl, _⟩ := h
    rfl
  · obtain ⟨x, k, rfl, hk, q⟩ := h
    refine ⟨_, (pss_one (ps_ret (pe_and (pe_callB call_isi (by rfl) Z_isinstance (by decide +kernel) (pa_cons (pv 0) (pa_cons (pe_bltn (v := .ty "int") (by rfl) Z_int (by decide +kernel) rfl) pa_nil))) (pe_one (pe_not (pe_callB call_isi (by rfl) Z_isinstance (by decide +kernel) (pa_cons (pv 0) (pa_cons (pe_bltn (v := .ty "bool") (by rfl) Z_bool (by decide +kernel) rfl) pa_nil)))))))), ?_⟩
    walk_at "go"
    refine x_isiInt hk ?_
    walk_at "go"
    cases k
    case int =>
      refine x_T ?_
      walk_at "go"
      refine x_isiBool hk ?_
      walk_at "go"
      exact q
    case bl =>
      refine x_T ?_
      walk_at "go"
      refine x_isiBool hk ?_
      walk_at "go"
      exact q
    all_goals
      refine x_F ?_
      exact q
end
/-! ### k93: numbers and fractions as texts, the plain law -/
section
open TL
def okDs (ds : List Nat) : Bool := decide (1 ≤ ds.length) && decide (ds.length ≤ 30) && ds.all fun c => decide (48 ≤ c) && decide (c ≤ 57)
/-- the number that a word's signs tell -/
def numL2 : List Nat → Option Int
  | 45 :: ds => if okDs ds = true ∧ ds.head? ≠ some 48 then some (-(NumText.digitsVal ds : Nat)) else none
  | ds => if okDs ds = true ∧ (ds.head? ≠ some 48 ∨ ds.length = 1) then some (NumText.digitsVal ds : Nat) else none
def numW (z : Str) : Option Int := numL2 z.cps.toList
theorem okDs_iff {ds : List Nat} : okDs ds = true ↔ 1 ≤ ds.length ∧ ds.length ≤ 30 ∧ NumText.AllDigits ds := by
  unfold okDs
  rw [Bool.and_eq_true, Bool.and_eq_true, decide_eq_true_eq, decide_eq_true_eq, List.all_eq_true]
  constructor
  · rintro ⟨⟨h1, h2⟩, h3⟩
    refine ⟨h1, h2, fun c hc => ?_⟩
    have := h3 c hc
    rw [Bool.and_eq_true, decide_eq_true_eq, decide_eq_true_eq] at this
    exact this
  · rintro ⟨h1, h2, h3⟩
    refine ⟨⟨h1, h2⟩, fun c hc => ?_⟩
    rw [Bool.and_eq_true, decide_eq_true_eq, decide_eq_true_eq]
    exact h3 c hc
theorem dv_snoc (ds : List Nat) (c : Nat) : NumText.digitsVal (ds ++ [c]) = NumText.digitsVal ds * 10 + (c - 48) := by
  unfold NumText.digitsVal
  rw [List.foldl_append]
  rfl
/-- a number's digits begin with 0 for 0 alone -/
theorem numL_head : ∀ n : Nat, 1 ≤ n → (numL n).head? ≠ some 48
  | n, h => by
    rcases Nat.lt_or_ge n 10 with c | c
    · rw [numL_lt c]
      intro e
      have : 48 + n = 48 := Option.some.inj e
      omega
    · rw [numL_step c]
      have ih := numL_head (n / 10) (by omega)
      have hn := numL_ne (n / 10)
      cases e : numL (n / 10) with
      | nil => exact absurd e hn
      | cons a r =>
        rw [e] at ih
        exact ih
termination_by n => n
decreasing_by omega
theorem snoc_ind {α : Type} {M : List α → Prop} (h0 : M []) (hs : ∀ l a, M l → M (l ++ [a])) (l : List α) : M l := by
  have : ∀ r : List α, M r.reverse := by
    intro r
    induction r with
    | nil => exact h0
    | cons a r ih =>
      rw [List.reverse_cons]
      exact hs _ _ ih
  have h := this l.reverse
  rwa [List.reverse_reverse] at h
theorem numL_back (ds : List Nat) : NumText.AllDigits ds → ds ≠ [] → (ds.head? ≠ some 48 ∨ ds.length = 1) → numL (NumText.digitsVal ds) = ds := by
  refine snoc_ind (M := fun ds => NumText.AllDigits ds → ds ≠ [] → (ds.head? ≠ some 48 ∨ ds.length = 1) → numL (NumText.digitsVal ds) = ds) (fun _ h => absurd rfl h) (fun l c ih had hne hh => ?_) ds
  have hc : 48 ≤ c ∧ c ≤ 57 := had c (List.mem_append_right _ List.mem_cons_self)
  have hal : NumText.AllDigits l := fun d hd => had d (List.mem_append_left _ hd)
  cases l with
  | nil =>
    show numL (0 * 10 + (c - 48)) = [c]
    rw [numL_lt (by omega)]
    exact congrArg (fun z => [z]) (by omega)
  | cons a r =>
    have hh2 : (a :: r).head? ≠ some 48 := by
      rcases hh with h | h
      · exact h
      · rw [List.length_append, List.length_cons] at h
        simp at h
    have e := ih hal (by simp) (.inl hh2)
    have hpos : 1 ≤ NumText.digitsVal (a :: r) := by
      rcases Nat.eq_zero_or_pos (NumText.digitsVal (a :: r)) with z | z
      · rw [z, numL_lt (by decide)] at e
        rw [← e] at hh2
        exact absurd rfl hh2
      · exact z
    rw [dv_snoc, numL_step (by omega), show (NumText.digitsVal (a :: r) * 10 + (c - 48)) / 10 = NumText.digitsVal (a :: r) by omega, e]
    exact congrArg (fun z => a :: r ++ [z]) (by omega)
/-- a text of digits is a number's own iff it does not begin with 0 in vain -/
theorem numL_iff {ds : List Nat} (h : NumText.AllDigits ds) (hne : ds ≠ []) : numL (NumText.digitsVal ds) = ds ↔ (ds.head? ≠ some 48 ∨ ds.length = 1) := by
  refine ⟨fun e => ?_, numL_back ds h hne⟩
  rcases Nat.eq_zero_or_pos (NumText.digitsVal ds) with z | z
  · rw [z, numL_lt (by decide)] at e
    rw [← e]
    exact .inr rfl
  · rw [← e]
    exact .inl (numL_head _ z)
theorem str_ext {x y : Str} (h : x.cps.toList = y.cps.toList) : x = y := by
  cases x with
  | mk a =>
    cases y with
    | mk b =>
      have h : a.toList = b.toList := h
      exact congrArg Str.mk (Array.toList_inj.mp h)
theorem tl_neg (n : Nat) (h : 1 ≤ n) : (Str.ofString (toString (-(n : Int)))).cps.toList = 45 :: numL n := by
  obtain ⟨m, rfl⟩ : ∃ m, n = m + 1 := ⟨n - 1, by omega⟩
  rw [signs_ofString]
  show ("-" ++ Nat.repr (m + 1)).toList.map Char.toNat = _
  rw [String.toList_append, List.map_append, Nat.toList_repr]
  rfl
theorem tl_pos (n : Nat) : (Str.ofString (toString (n : Int))).cps.toList = numL n := tl_num n
/-- the number's text is the word -/
theorem num_text {z : Str} {n : Int} (h : numW z = some n) : Str.ofString (toString n) = z := by
  unfold numW at h
  refine str_ext ?_
  generalize z.cps.toList = cs at h
  unfold numL2 at h
  split at h
  · next ds =>
    split at h
    · next hc =>
      obtain ⟨ho, hh⟩ := hc
      obtain ⟨h1, h2, h3⟩ := okDs_iff.mp ho
      have hne : ds ≠ [] := fun e => by rw [e] at h1; exact absurd h1 (by decide)
      cases h
      have e := numL_back ds h3 hne (.inl hh)
      have hp : 1 ≤ NumText.digitsVal ds := by
        rcases Nat.eq_zero_or_pos (NumText.digitsVal ds) with z | z
        · rw [z, numL_lt (by decide)] at e
          rw [← e] at hh
          exact absurd rfl hh
        · exact z
      rw [tl_neg _ hp, e]
    · cases h
  · split at h
    · next hc =>
      obtain ⟨ho, hh⟩ := hc
      obtain ⟨h1, h2, h3⟩ := okDs_iff.mp ho
      cases h
      rw [tl_pos, numL_back _ h3 (fun e => by rw [e] at h1; exact absurd h1 (by decide)) hh]
    · cases h
/-- the parts between the signs s -/
theorem spl1_ne (s : Nat) : ∀ (l acc : List Nat), spl [s] 0 acc l ≠ []
  | [], acc => by rw [spl_nil]; simp
  | c :: r, acc => by
    cases hp : pre [s] (c :: r) with
    | true => rw [spl_hit hp]; simp
    | false => rw [spl_miss hp]; exact spl1_ne s r _
theorem pre_one {s c : Nat} {r : List Nat} (h : pre [s] (c :: r) = true) : c = s := by
  by_cases e : c = s
  · exact e
  · rw [pre_of_head [] r e] at h
    cases h
theorem joinL_cons {S p : List Nat} {r : List (List Nat)} (h : r ≠ []) : joinL S (p :: r) = p ++ (S ++ joinL S r) := by
  cases r with
  | nil => exact absurd rfl h
  | cons _ _ => rfl
theorem spl1_join (s : Nat) : ∀ (l acc : List Nat), joinL [s] (spl [s] 0 acc l) = acc ++ l
  | [], acc => by
    rw [spl_nil, List.append_nil]
    rfl
  | c :: r, acc => by
    cases hp : pre [s] (c :: r) with
    | true =>
      have e := pre_one hp
      rw [spl_hit hp]
      show joinL [s] (acc :: spl [s] 0 [] r) = _
      rw [joinL_cons (spl1_ne s _ _)]
      show acc ++ ([s] ++ joinL [s] (spl [s] 0 [] r)) = _
      rw [spl1_join s r [], e]
      rfl
    | false => rw [spl_miss hp, spl1_join s r, List.append_assoc]; rfl
def slash : Str := Str.ofString "/"
theorem split_back (z : Str) {a b : Str} (h : Txt.split z slash = [a, b]) : z = a ++ slash ++ b := by
  have e := split_spl z slash (by decide +kernel) (kind_ok (by decide +kernel))
  rw [h] at e
  have e2 := spl1_join 47 z.cps.toList []
  refine str_ext ?_
  have e3 : spl [47] 0 [] z.cps.toList = [a.cps.toList, b.cps.toList] := e.symm
  rw [e3] at e2
  show tl z = tl (a ++ slash ++ b)
  rw [tl_append, tl_append]
  show z.cps.toList = a.cps.toList ++ [47] ++ b.cps.toList
  rw [List.append_assoc]
  exact e2.symm
/-- the fraction whose text this is -/
def frW (z : Str) : Option (Int × Int) := match Txt.split z slash with
  | [a, b] => match numW a, numW b with
    | some x, some y => if 1 ≤ y ∧ Int.gcd x y = 1 then some (x, y) else none
    | _, _ => none
  | _ => none
theorem frW_text {z : Str} {x y : Int} (h : frW z = some (x, y)) : Str.ofString (toString x) ++ slash ++ Str.ofString (toString y) = z := by
  unfold frW at h
  split at h
  · next a b hs =>
    split at h
    · next x1 y1 h1 h2 =>
      split at h
      · cases h
        rw [num_text h1, num_text h2, ← split_back z hs]
      · cases h
    · cases h
  · cases h
/-! ### k93: Euclid's steps -/
theorem mod_half {a b : Nat} (h : b ≤ a) (hb : 0 < b) : 2 * (a % b) < a := by
  have h1 := Nat.mod_lt a hb
  have h2 := Nat.div_add_mod a b
  have h3 : 1 ≤ a / b := (Nat.one_le_div_iff hb).mpr h
  have h4 : b ≤ b * (a / b) := Nat.le_mul_of_pos_right b h3
  omega
/-- behind k steps from (a, b), where the product halves -/
def euc : Nat → Nat × Nat → Nat × Nat
  | 0, p => p
  | k + 1, p => if p.2 = 0 then p else euc k (p.2, p.1 % p.2)
theorem euc_gcd : ∀ (k : Nat) (p : Nat × Nat), Nat.gcd (euc k p).1 (euc k p).2 = Nat.gcd p.1 p.2
  | 0, _ => rfl
  | k + 1, p => by
    unfold euc
    split
    · rfl
    · rw [euc_gcd k]
      show Nat.gcd p.2 (p.1 % p.2) = _
      rw [Nat.gcd_comm p.1 p.2, Nat.gcd_rec p.2 p.1, Nat.gcd_comm]
theorem euc_small : ∀ (k : Nat) (a b : Nat), b ≤ a → a * b < 2 ^ k → (euc k (a, b)).2 = 0
  | 0, a, b, h, hp => by
    have h1 : a * b = 0 := by
      have : a * b < 1 := hp
      omega
    show b = 0
    rcases Nat.mul_eq_zero.mp h1 with z | z <;> omega
  | k + 1, a, b, h, hp => by
    unfold euc
    by_cases hb : b = 0
    · rw [if_pos hb]; exact hb
    · rw [if_neg hb]
      have hb0 : 0 < b := Nat.pos_of_ne_zero hb
      refine euc_small k b (a % b) (Nat.le_of_lt (Nat.mod_lt a hb0)) ?_
      have h1 := mod_half h hb0
      have h2 : b * (2 * (a % b)) < b * a := Nat.mul_lt_mul_of_pos_left h1 hb0
      have e1 : b * (2 * (a % b)) = 2 * (b * (a % b)) := by rw [← Nat.mul_assoc, Nat.mul_comm b 2, Nat.mul_assoc]
      have e2 : b * a = a * b := Nat.mul_comm b a
      have e3 : 2 ^ (k + 1) = 2 * 2 ^ k := by rw [Nat.pow_succ, Nat.mul_comm]
      generalize b * (a % b) = u at *
      generalize 2 ^ k = v at *
      omega
theorem euc_done {a b : Nat} (ha : a < 10 ^ 30) (hb : b < 10 ^ 30) : (euc 400 (a, b)).2 = 0 := by
  show (if b = 0 then (a, b) else euc 399 (b, a % b)).2 = 0
  by_cases h : b = 0
  · rw [if_pos h]; exact h
  · rw [if_neg h]
    have hb0 : 0 < b := Nat.pos_of_ne_zero h
    refine euc_small 399 b (a % b) (Nat.le_of_lt (Nat.mod_lt a hb0)) ?_
    have h1 : b * (a % b) < 10 ^ 30 * 10 ^ 30 := Nat.mul_lt_mul'' hb (Nat.lt_trans (Nat.mod_lt a hb0) hb)
    exact Nat.lt_trans h1 (by decide +kernel)
theorem euc_val {a b : Nat} (ha : a < 10 ^ 30) (hb : b < 10 ^ 30) : (euc 400 (a, b)).1 = Nat.gcd a b := by
  have e := euc_gcd 400 (a, b)
  rw [euc_done ha hb, Nat.gcd_zero_right] at e
  exact e
end
/-! ### k93: the pool, Euclid's steps -/
def spPool93 (K : PySem.W.Frag) : Sp := fun vs H Q _ => ∃ (a : Addr) (ns : List Int) (k : Int), vs = [.ref a, .int k] ∧ SqL K H a (intsV ns) ∧ ns.length ≤ 63 ∧ 0 ≤ k ∧ k ≤ 100 ∧
  ∀ H' p, L2.Same H H' → H p = none → PoolAt H' p → Q (.ref p) H'
def spIsPair (K : PySem.W.Frag) : Sp := fun vs H Q _ => ∃ a xs, vs = [.ref a] ∧ SqT K H a xs ∧ Q (.bl (decide (xs.length = 2))) H
def spGcd : Sp := fun vs H Q _ => ∃ (a b : Nat), vs = [.int a, .int b] ∧ (b : Int) < 2 ^ 190 ∧ Q (.int (Nat.gcd a b : Nat)) H
def spDivL : Sp := fun vs H Q _ => ∃ (a b : Nat), vs = [.int a, .int b] ∧ (b : Int) < 2 ^ 190 ∧ Q (.int ((euc 400 (a, b)).1 : Nat)) H
def optV : Option Int → V
  | none => .non
  | some n => .int n
/-- is the pair a fraction -/
def frB : Option Int → Option Int → Bool
  | some x, some y => decide (1 ≤ y ∧ Int.gcd x y = 1)
  | _, _ => false
def spIsFr (K : PySem.W.Frag) : Sp := fun vs H Q _ => ∃ (a : Addr) (u v : Option Int), vs = [.ref a] ∧ H a = some (.tup [optV u, optV v]) ∧ (∀ y, v = some y → y < 2 ^ 190) ∧ Q (.bl (frB u v)) H
theorem lpWg {c : TT} {tb : TS} {σ : L2.St} {H : Hp} {n : L2.St → Hp → Prop} {r : VK} {b k : L2.St → Hp → Prop} (W : Nat → L2.St → Hp → Prop) {m : Nat} (h0 : W m σ H) (hs : ∀ m σ H, W m σ H → ∃ z, (∀ R : Bool → Hp → Prop, R z H → c σ H R) ∧
    if z = true then tb ⟨fun σ' H' => ∃ m', m' < m ∧ W m' σ' H', r, n, fun σ' H' => ∃ m', m' < m ∧ W m' σ' H'⟩ σ H else n σ H) : tWhile c tb ⟨n, r, b, k⟩ σ H := by
  refine ⟨W, ⟨m, h0⟩, fun m σ H h => ?_⟩
  obtain ⟨z, hz, q⟩ := hs m σ H h
  refine hz _ ?_
  cases z with
  | true => exact ⟨fun σ' H' => ∃ m', m' < m ∧ W m' σ' H', fun _ _ h => h, q⟩
  | false => exact q
/-- one step -/
def est (q : Nat × Nat) : Nat × Nat := if q.2 = 0 then q else (q.2, q.1 % q.2)
theorem euc_stop : ∀ (k : Nat) (p : Nat × Nat), p.2 = 0 → euc k p = p
  | 0, _, _ => rfl
  | k + 1, p, h => by unfold euc; rw [if_pos h]
theorem euc_step : ∀ (k : Nat) (p : Nat × Nat), euc (k + 1) p = est (euc k p)
  | 0, p => by
    unfold est
    show (if p.2 = 0 then p else (p.2, p.1 % p.2)) = if p.2 = 0 then p else (p.2, p.1 % p.2)
    rfl
  | k + 1, p => by
    show (if p.2 = 0 then p else euc (k + 1) (p.2, p.1 % p.2)) = est (euc (k + 1) p)
    by_cases h : p.2 = 0
    · rw [if_pos h, euc_stop _ _ h]
      unfold est
      rw [if_pos h]
    · rw [if_neg h, euc_step k]
      show _ = est (if p.2 = 0 then p else euc k (p.2, p.1 % p.2))
      rw [if_neg h]
theorem euc_add (i : Nat) (p : Nat × Nat) (h : (euc i p).2 = 0) : ∀ j, euc (i + j) p = euc i p
  | 0 => rfl
  | j + 1 => by
    rw [← Nat.add_assoc, euc_step, euc_add i p h j]
    unfold est
    rw [if_pos h]
theorem euc_pos : ∀ (k : Nat) (a b : Nat), 1 ≤ b → 1 ≤ (euc (k + 1) (a, b)).1
  | 0, a, b, h => by
    rw [euc_step]
    unfold est
    show 1 ≤ (if b = 0 then (a, b) else (b, a % b)).1
    rw [if_neg (by omega)]
    exact h
  | k + 1, a, b, h => by
    have ih := euc_pos k a b h
    rw [euc_step]
    unfold est
    split
    · exact ih
    · show 1 ≤ (euc (k + 1) (a, b)).2
      omega
section
variable {P : Program} {w : World} {K : PySem.W.Frag} {mg : Str → Option Value} {base : Heap}
theorem ok_pool {f : Addr} {fd : FuncData} (F : Fun K "_law_pool" "_law_pool" s_pool f fd) (Z_len : mg "len" = none) (Z_int : mg "int" = none) : FnOk P w K mg base CX0 1 f fd ["_law_script", "_law_k"] (spPool93 K) := by
  refine F.ok sc_pool (fun vs H Q E h => ?_) (fun cdv A outer s H vs Q E hr h => ?_)
  · obtain ⟨_, _, _, rfl, _⟩ := h
    rfl
  · obtain ⟨a, ns, kk, rfl, hS, hlen, k0, k1, k⟩ := h
    refine ⟨_, (pss_cons (ps_set (i := 2) sc_pool.nd rfl (Or.inl rfl) pe_int)
      (pss_cons (ps_if (pt_cmpR op_gt (pe_callB call_lenA (by rfl) Z_len (by decide +kernel) (pa_cons (pv 0) pa_nil)) pe_int (nomark _))
      (pss_one (ps_set (i := 2) sc_pool.nd rfl (Or.inl rfl) (pe_op op_mod (pe_callTy call_intA (by rfl) Z_int (by decide +kernel) (pa_cons (pe_op op_add (pe_ix ix_list (pv 0) (pe_op op_mod (pe_callTy call_intA (by rfl) Z_int (by decide +kernel) (pa_cons (pv 1) pa_nil)) (pe_callB call_lenA (by rfl) Z_len (by decide +kernel) (pa_cons (pv 0) pa_nil))) (fun _ _ => rfl)) (pe_op op_mulA pe_int (pe_op op_fdivA (pv 1) (pe_callB call_lenA (by rfl) Z_len (by decide +kernel) (pa_cons (pv 0) pa_nil))))) pa_nil)) (pe_op op_powW (pe_op op_powW pe_int pe_int) pe_int))))
      pss_nil)
      (pss_one (ps_ret (pe_lst (pa_cons (pv 2) (pa_cons (pe_cmpR op_ge (pv 2) (pe_op op_powW pe_int pe_int) (nomark _)) (pa_cons (pe_op op_mod (pe_callTy call_intA (by rfl) Z_int (by decide +kernel) (pa_cons (pe_op op_add (pv 2) (pe_op op_mulA pe_int (pe_op op_add (pv 1) pe_int))) pa_nil)) pe_int) (pa_cons pe_int pa_nil))))))))), ?_⟩
    have el : (intsV ns).length = ns.length := by rw [List.length_map]
    walk_at "go"
    refine x_lenL hS ?_
    rw [el]
    walk_at "go"
    refine x_dec (fun hc => ?_) (fun hc => ?_)
    · walk_at "go"
      refine x_lenL hS ?_
      rw [el]
      walk_at "go"
      have hi0 := Int.emod_nonneg kk (show (ns.length : Int) ≠ 0 by omega)
      have hi1 := Int.emod_lt_of_pos kk (show (0 : Int) < (ns.length : Int) by omega)
      obtain ⟨z, hz⟩ : ∃ z, ns[(kk % (ns.length : Int)).toNat]? = some z := ⟨_, List.getElem?_eq_getElem (by omega)⟩
      have hz2 : (intsV ns)[(kk % (ns.length : Int)).toNat]? = some (.int z) := by rw [List.getElem?_map, hz]; rfl
      refine x_ixl (kk % (ns.length : Int)).toNat hS (by omega) hz2 ?_
      walk_at "go"
      refine x_lenL hS ?_
      rw [el]
      walk_at "go"
      refine ⟨sz_le (by simp), fun p hp => ?_⟩
      exact k _ p (same_new hp) hp ⟨_, _, _, _, upd_same⟩
    · walk_at "go"
      refine ⟨sz_le (by simp), fun p hp => ?_⟩
      exact k _ p (same_new hp) hp ⟨_, _, _, _, upd_same⟩
theorem ok_is_pair {f : Addr} {fd : FuncData} (F : Fun K "is_pair" "is_pair" s_is_pair f fd) (Z_tuple : mg "tuple" = none) (Z_len : mg "len" = none) (Z_isinstance : mg "isinstance" = none) : FnOk P w K mg base CX0 1 f fd ["thing"] (spIsPair K) := by
  refine F.ok sc_is_pair (fun vs H Q E h => ?_) (fun cdv A outer s H vs Q E hr h => ?_)
  · obtain ⟨_, _, rfl, _⟩ := h
    rfl
  · obtain ⟨a, xs, rfl, ha, q⟩ := h
    refine ⟨_, (pss_one (ps_ret (pe_and (pe_callB call_isi (by rfl) Z_isinstance (by decide +kernel) (pa_cons (pv 0) (pa_cons (pe_bltn (v := .ty "tuple") (by rfl) Z_tuple (by decide +kernel) rfl) pa_nil))) (pe_one (pe_cmpR op_eq (pe_callB call_lenA (by rfl) Z_len (by decide +kernel) (pa_cons (pv 0) pa_nil)) pe_int (nomark _)))))), ?_⟩
    walk_at "go"
    refine x_isiTup (.tup ha) ?_
    walk_at "go"
    refine x_T ?_
    walk_at "go"
    refine x_lenT ha ?_
    walk_at "go"
    have e : decide ((xs.length : Int) = 2) = decide (xs.length = 2) := decide_eq_decide.mpr (by omega)
    rw [e]
    exact q
theorem ok_common_divisor {f : Addr} {fd : FuncData} (F : Fun K "common_divisor" "common_divisor" s_common_divisor f fd) : FnOk P w K mg base CX0 1 f fd ["one", "other"] spGcd := by
  refine F.ok sc_common_divisor (fun vs H Q E h => ?_) (fun cdv A outer s H vs Q E hr h => ?_)
  · obtain ⟨_, _, rfl, _⟩ := h
    rfl
  · obtain ⟨a, b, rfl, hb, q⟩ := h
    refine ⟨_, (pss_cons (ps_while PassesOwn.never (pt_cmpR op_gt (pv 1) pe_int (nomark _))
      (pss_one (ps_par (i := 0) (j := 1) (by rfl) sc_common_divisor.nd rfl rfl (by decide) rfl rfl (pa_cons (pv 1) (pa_cons (pe_op op_mod (pv 0) (pv 1)) pa_nil)) (by rfl))))
      (pss_one (ps_ret (pv 0)))), ?_⟩
    walk_at "go"
    refine lpWg (fun m σ H' => ∃ x y : Nat, σ = [some (.int x), some (.int y)] ∧ H' = H ∧ y ≤ b ∧ y ≤ m ∧ Nat.gcd x y = Nat.gcd a b) (m := b) ⟨a, b, rfl, rfl, Nat.le_refl _, Nat.le_refl _, rfl⟩ ?_
    rintro m σ H' ⟨x, y, rfl, rfl, hy, hym, hg⟩
    refine ⟨decide (0 < y), fun R hR => ?_, ?_⟩
    · walk_at "go"
      have e : decide ((0 : Int) < (y : Int)) = decide (0 < y) := decide_eq_decide.mpr (by omega)
      rw [e]
      exact hR
    · refine x_dec (fun h0 => ?_) (fun h0 => ?_)
      · walk_at "go"
        refine ⟨x % y, Nat.lt_of_lt_of_le (Nat.mod_lt _ h0) hym, y, x % y, rfl, rfl, Nat.le_trans (Nat.le_of_lt (Nat.mod_lt _ h0)) hy, Nat.le_refl _, ?_⟩
        rw [← hg, Nat.gcd_comm x y, Nat.gcd_rec y x, Nat.gcd_comm]
      · walk_at "go"
        have e : y = 0 := by omega
        subst e
        rw [Nat.gcd_zero_right] at hg
        rw [hg]
        exact q
theorem ok_l_divisor {f : Addr} {fd : FuncData} (F : Fun K "_law_divisor" "_law_divisor" s_l_divisor f fd) (Z_range : mg "range" = none) (Z_int : mg "int" = none) : FnOk P w K mg base CX0 1 f fd ["_law_one", "_law_other"] spDivL := by
  refine F.ok sc_l_divisor (fun vs H Q E h => ?_) (fun cdv A outer s H vs Q E hr h => ?_)
  · obtain ⟨_, _, rfl, _⟩ := h
    rfl
  · obtain ⟨a, b, rfl, hb, q⟩ := h
    refine ⟨_, (pss_cons (ps_for PassesOwn.never rfl (pi_range1 rfl Z_range (pa_cons pe_int pa_nil)) (pg_name (i := 2) sc_l_divisor.nd rfl (Or.inl rfl))
      (pss_cons (ps_if (pt_cmpR op_eq (pv 1) pe_int (nomark _))
      (pss_one ps_break)
      pss_nil)
      (pss_cons (ps_set (i := 3) sc_l_divisor.nd rfl (Or.inl rfl) (pe_op op_mod (pe_callTy call_intA (by rfl) Z_int (by decide +kernel) (pa_cons (pv 0) pa_nil)) (pv 1)))
      (pss_cons (ps_set (i := 0) sc_l_divisor.nd rfl (Or.inl rfl) (pv 1))
      (pss_one (ps_set (i := 1) sc_l_divisor.nd rfl (Or.inl rfl) (pv 3)))))))
      (pss_one (ps_ret (pv 0)))), ?_⟩
    walk_at "go"
    refine lpR (fun i σ H' => ∃ (x y : Nat) (v2 v3 : Option V), σ = [some (.int (x : Int)), some (.int (y : Int)), v2, v3] ∧ H' = H ∧ y ≤ b ∧ euc i (a, b) = (x, y)) ⟨by omega, by omega⟩ ⟨a, b, _, _, rfl, rfl, Nat.le_refl _, rfl⟩ ?_ ?_
    · rintro i σ H' hi ⟨x, y, v2, v3, rfl, rfl, hy, he⟩
      walk_at "go"
      refine x_dec (fun h0 => ?_) (fun h0 => ?_)
      · walk_at "go"
        have e0 : y = 0 := by omega
        have e : euc 400 (a, b) = (x, y) := by
          have := euc_add i (a, b) (by rw [he]; exact e0) (400 - i)
          rw [show i + (400 - i) = 400 by omega] at this
          rw [this, he]
        rw [e] at q
        exact q
      · walk_at "go"
        have hy0 : 0 < y := by omega
        refine ⟨y, x % y, _, _, rfl, rfl, Nat.le_trans (Nat.le_of_lt (Nat.mod_lt _ hy0)) hy, ?_⟩
        rw [euc_step, he]
        unfold est
        rw [if_neg (show ¬ y = 0 by omega)]
    · rintro σ H' ⟨x, y, v2, v3, rfl, rfl, hy, he⟩
      walk_at "go"
      rw [show (400 : Int).toNat = 400 from rfl] at he
      rw [he] at q
      exact q
theorem ok_is_fraction {f : Addr} {fd : FuncData} (F : Fun K "is_fraction" "is_fraction" s_is_fraction f fd) (Z_abs : mg "abs" = none) (C_common_divisor : Cal P w K mg base 1 "common_divisor" ["one", "other"] spGcd)
    (C_is_pair : Cal P w K mg base 1 "is_pair" ["thing"] (spIsPair K)) (C_is_integer : Cal P w K mg base 1 "is_integer" ["thing"] (spIsInt K)) : FnOk P w K mg base CX0 2 f fd ["thing"] (spIsFr K) := by
  refine F.ok sc_is_fraction (fun vs H Q E h => ?_) (fun cdv A outer s H vs Q E hr h => ?_)
  · obtain ⟨_, _, _, rfl, _⟩ := h
    rfl
  · obtain ⟨a, u, v, rfl, ha, hb, q⟩ := h
    have kd : ∀ o : Option Int, ∃ k, Kd K H (optV o) k ∧ isIntK k = o.isSome := fun o => by
      cases o with
      | none => exact ⟨_, .non, rfl⟩
      | some n => exact ⟨_, .int n, rfl⟩
    obtain ⟨ku, hku, eku⟩ := kd u
    obtain ⟨kv, hkv, ekv⟩ := kd v
    refine ⟨_, (pss_cons (ps_if (PW.pt (pw_or (pt_not (pt_val (pe_cal C_is_pair (hr.mono (by decide)) (by rfl) (pa_cons (pv 0) pa_nil)))) (pw_or (pt_not (pt_val (pe_cal C_is_integer (hr.mono (by decide)) (by rfl) (pa_cons (pe_ix ix_tup (pv 0) pe_int (fun _ _ => rfl)) pa_nil)))) (pw_or1 (pt_not (pt_val (pe_cal C_is_integer (hr.mono (by decide)) (by rfl) (pa_cons (pe_ix ix_tup (pv 0) pe_int (fun _ _ => rfl)) pa_nil))))))))
      (pss_one (ps_ret pe_bl))
      pss_nil)
      (pss_one (ps_ret (pe_and (pe_cmpR op_ge (pe_ix ix_tup (pv 0) pe_int (fun _ _ => rfl)) pe_int (nomark _)) (pe_one (pe_cmpR op_eq (pe_cal C_common_divisor (hr.mono (by decide)) (by rfl) (pa_cons (pe_callB call_absA (by rfl) Z_abs (by decide +kernel) (pa_cons (pe_ix ix_tup (pv 0) pe_int (fun _ _ => rfl)) pa_nil)) (pa_cons (pe_ix ix_tup (pv 0) pe_int (fun _ _ => rfl)) pa_nil))) pe_int (nomark _))))))), ?_⟩
    walk_at "go"
    refine ⟨a, _, rfl, SqT.of ha, ?_⟩
    walk_at "go"
    refine x_nyes (show [optV u, optV v].length = 2 from rfl) ?_
    walk_at "go"
    refine x_ixt 0 (SqT.of ha) rfl rfl ?_
    walk_at "go"
    refine ⟨_, _, rfl, hku, ?_⟩
    rw [eku]
    cases u with
    | none =>
      walk_at "go"
      exact q
    | some x =>
      walk_at "go"
      refine x_nT ?_
      walk_at "go"
      refine x_ixt 1 (SqT.of ha) rfl rfl ?_
      walk_at "go"
      refine ⟨_, _, rfl, hkv, ?_⟩
      rw [ekv]
      cases v with
      | none =>
        walk_at "go"
        exact q
      | some y =>
        have hy := hb y rfl
        have ha : H a = some (.tup [.int x, .int y]) := ha
        walk_at "go"
        refine x_nT ?_
        walk_at "go"
        refine x_ixt 1 (SqT.of ha) rfl rfl ?_
        walk_at "go"
        refine x_dec (fun h1 => ?_) (fun h1 => ?_)
        · walk_at "go"
          refine x_ixt 0 (SqT.of ha) rfl rfl ?_
          walk_at "go"
          refine x_ixt 1 (SqT.of ha) rfl rfl ?_
          walk_at "go"
          have ea : (if x < 0 then -x else x) = (x.natAbs : Int) := by split <;> omega
          have eb : y = (y.natAbs : Int) := by omega
          refine ⟨x.natAbs, y.natAbs, by rw [ea, ← eb], by omega, ?_⟩
          walk_at "go"
          have e : frB (some x) (some y) = decide (((Nat.gcd x.natAbs y.natAbs : Nat) : Int) = 1) := decide_eq_decide.mpr ⟨fun h => by have : Nat.gcd x.natAbs y.natAbs = 1 := h.2; omega, fun h => ⟨h1, by show Nat.gcd x.natAbs y.natAbs = 1; omega⟩⟩
          rw [e] at q
          exact q
        · have e : frB (some x) (some y) = false := decide_eq_false fun h => h1 h.1
          rw [e] at q
          exact q
end
/-! ### k93: a word's number -/
section
open TL
theorem cut_one (z : Str) : (cutS z none (some 1)).cps.toList = z.cps.toList.take 1 := by
  show (((z.cps.toList.drop (HT.sIx z.length 0 none)).take (HT.sIx z.length z.length (some 1) - HT.sIx z.length 0 none)).toArray).toList = _
  rw [show (some (1 : Int)) = some ((1 : Nat) : Int) from rfl, HT.sIx_nat, HT.sIx_none, List.drop_zero, List.toList_toArray, Nat.sub_zero, str_len]
  rw [Nat.min_def]
  split
  · rfl
  · rw [List.take_of_length_le (Nat.le_refl _), List.take_of_length_le (by omega)]
theorem cut_rest (z : Str) : (cutS z (some 1) none).cps.toList = z.cps.toList.drop 1 := by
  show (((z.cps.toList.drop (HT.sIx z.length 0 (some 1))).take (HT.sIx z.length z.length none - HT.sIx z.length 0 (some 1))).toArray).toList = _
  rw [show (some (1 : Int)) = some ((1 : Nat) : Int) from rfl, HT.sIx_nat, HT.sIx_none, List.toList_toArray, str_len]
  rw [Nat.min_def]
  split
  · rw [List.take_of_length_le (by rw [List.length_drop]; omega)]
  · have e : z.cps.toList = [] := List.eq_nil_of_length_eq_zero (by omega)
    rw [e]
    rfl
theorem cut_minus (z : Str) : cutS z none (some 1) = Str.ofString "-" ↔ z.cps.toList.head? = some 45 := by
  have em : (Str.ofString "-").cps.toList = [45] := rfl
  constructor
  · intro h
    have e := congrArg (fun s : Str => s.cps.toList) h
    have e : (cutS z none (some 1)).cps.toList = (Str.ofString "-").cps.toList := e
    rw [cut_one, em] at e
    cases hz : z.cps.toList with
    | nil => rw [hz] at e; cases e
    | cons a r => rw [hz] at e; injection e with e _; rw [e]; rfl
  · intro h
    refine str_ext ?_
    rw [cut_one, em]
    cases hz : z.cps.toList with
    | nil => rw [hz] at h; cases h
    | cons a r => rw [hz] at h; injection h with h; rw [h]; rfl
/-- d: the word's digits, behind its sign or not -/
def DgOf (z d : Str) (neg : Bool) : Prop := (neg = true ∧ z.cps.toList = 45 :: d.cps.toList) ∨ (neg = false ∧ d = z ∧ z.cps.toList.head? ≠ some 45)
theorem dg_neg {z : Str} (h : z.cps.toList.head? = some 45) : DgOf z (cutS z (some 1) none) true := by
  refine .inl ⟨rfl, ?_⟩
  rw [cut_rest]
  cases hz : z.cps.toList with
  | nil => rw [hz] at h; cases h
  | cons a r => rw [hz] at h; injection h with h; rw [h]; rfl
/-- it begins with 0 in vain -/
def BadZ (d : Str) (neg : Bool) : Prop := d.cps.toList.head? = some 48 ∧ (1 < d.cps.toList.length ∨ neg = true)
instance (d : Str) (neg : Bool) : Decidable (BadZ d neg) := by unfold BadZ; infer_instance
theorem numL2_pos {cs : List Nat} (h : cs.head? ≠ some 45) : numL2 cs = if okDs cs = true ∧ (cs.head? ≠ some 48 ∨ cs.length = 1) then some ((NumText.digitsVal cs : Nat) : Int) else none := by
  unfold numL2
  split
  · exact absurd rfl h
  · rfl
theorem dv_lt : ∀ ds : List Nat, NumText.AllDigits ds → NumText.digitsVal ds < 10 ^ ds.length := by
  intro ds
  refine snoc_ind (M := fun ds => NumText.AllDigits ds → NumText.digitsVal ds < 10 ^ ds.length) (fun _ => by decide) (fun l c ih had => ?_) ds
  have hc : 48 ≤ c ∧ c ≤ 57 := had c (List.mem_append_right _ List.mem_cons_self)
  have e := ih fun d hd => had d (List.mem_append_left _ hd)
  rw [dv_snoc, List.length_append, List.length_cons, List.length_nil, Nat.pow_add, Nat.pow_one]
  generalize 10 ^ l.length = u at *
  omega
theorem num_no {z d : Str} {neg : Bool} (h : DgOf z d neg) (ho : okDs d.cps.toList = false) : numW z = none := by
  unfold numW
  rcases h with ⟨_, e⟩ | ⟨_, rfl, e⟩
  · rw [e]
    show (if okDs d.cps.toList = true ∧ _ then _ else none) = none
    rw [ho, if_neg (fun h => by cases h.1)]
  · rw [numL2_pos e, ho, if_neg (fun h => by cases h.1)]
theorem num_all {z d : Str} {neg : Bool} (h : DgOf z d neg) (ho : okDs d.cps.toList = true) : ∃ n : Int, intText? z = some n ∧ z.length ≤ 31 ∧ n.natAbs < 10 ^ 30 ∧ numW z = (if BadZ d neg then none else some n) ∧ (Str.ofString (toString n) = z ↔ ¬ BadZ d neg) := by
  obtain ⟨h1, h2, h3⟩ := okDs_iff.mp ho
  have hne : d.cps.toList ≠ [] := fun e => by rw [e] at h1; exact absurd h1 (by decide)
  have hlt : NumText.digitsVal d.cps.toList < 10 ^ 30 := Nat.lt_of_lt_of_le (dv_lt _ h3) (Nat.pow_le_pow_right (by decide) h2)
  have key : ∀ n : Int, numW z = (if BadZ d neg then none else some n) → (Str.ofString (toString n) = z → ¬ BadZ d neg) → (numW z = (if BadZ d neg then none else some n) ∧ (Str.ofString (toString n) = z ↔ ¬ BadZ d neg)) := fun n e1 e2 => ⟨e1, e2, fun hb => by
    rw [if_neg hb] at e1
    exact num_text e1⟩
  rcases h with ⟨rfl, e⟩ | ⟨rfl, rfl, e⟩
  · have hl : z.length ≤ 31 := by rw [str_len, e, List.length_cons]; omega
    refine ⟨-(NumText.digitsVal d.cps.toList : Nat), intText_neg e h3 hne (by omega), hl, by omega, key _ ?_ ?_⟩
    · unfold numW
      rw [e]
      show (if okDs d.cps.toList = true ∧ d.cps.toList.head? ≠ some 48 then _ else none) = _
      by_cases hh : d.cps.toList.head? = some 48
      · rw [if_neg (fun h => h.2 hh), if_pos ⟨hh, .inr rfl⟩]
      · rw [if_pos ⟨ho, hh⟩, if_neg (fun h => hh h.1)]
    · rintro hz ⟨hb, _⟩
      have et : (Str.ofString (toString (-((NumText.digitsVal d.cps.toList : Nat) : Int)))).cps.toList = 45 :: d.cps.toList := by rw [hz, e]
      rcases Nat.eq_zero_or_pos (NumText.digitsVal d.cps.toList) with c | c
      · rw [c] at et
        have : (Str.ofString (toString (-((0 : Nat) : Int)))).cps.toList = [48] := by decide +kernel
        rw [this] at et
        injection et with et _
        exact absurd et (by decide)
      · rw [tl_neg _ c] at et
        injection et with _ et
        have hd := numL_head _ c
        rw [et] at hd
        exact hd hb
  · have hl : d.length ≤ 31 := by rw [str_len]; omega
    refine ⟨(NumText.digitsVal d.cps.toList : Nat), intText_digits h3 hne (by omega), hl, by omega, key _ ?_ ?_⟩
    · unfold numW
      rw [numL2_pos e]
      by_cases hb : BadZ d false
      · rw [if_pos hb, if_neg]
        rintro ⟨_, h | h⟩
        · exact h hb.1
        · rcases hb.2 with h2 | h2
          · omega
          · cases h2
      · rw [if_neg hb, if_pos]
        refine ⟨ho, ?_⟩
        by_cases hh : d.cps.toList.head? = some 48
        · refine .inr ?_
          have : ¬ 1 < d.cps.toList.length := fun h => hb ⟨hh, .inl h⟩
          omega
        · exact .inl hh
    · rintro hz ⟨hb, hb2⟩
      have et : numL (NumText.digitsVal d.cps.toList) = d.cps.toList := by rw [← tl_pos, hz]
      rcases (numL_iff h3 hne).mp et with h | h
      · exact h hb
      · rcases hb2 with h2 | h2
        · omega
        · cases h2
theorem abs_log {n : Int} (h : n.natAbs < 10 ^ 31) : n.natAbs.log2 < 1920 := by
  by_cases e : n.natAbs = 0
  · rw [e]; decide
  · exact (Nat.log2_lt e).mpr (Nat.lt_trans h (by decide +kernel))
theorem digs10 : (Str.ofString "0123456789").cps.toList = [48, 49, 50, 51, 52, 53, 54, 55, 56, 57] := by decide +kernel
theorem mem10 {c : Nat} : c ∈ (Str.ofString "0123456789").cps.toList ↔ 48 ≤ c ∧ c ≤ 57 := by
  rw [digs10]
  simp only [List.mem_cons, List.not_mem_nil, or_false]
  omega
def spNum : Sp := fun vs H Q _ => ∃ z : Str, vs = [.str z, .int 30] ∧ z.length ≤ 9000 ∧ Q (optV (numW z)) H
def spNumL : Sp := fun vs H Q _ => ∃ z : Str, vs = [.str z, .int 30] ∧ z.length ≤ 9000 ∧ ∀ H', L2.Same H H' → Q (optV (numW z)) H'
theorem DgOf.len {z d : Str} {neg : Bool} (h : DgOf z d neg) : d.length ≤ z.length := by
  rcases h with ⟨_, e⟩ | ⟨_, rfl, _⟩
  · rw [str_len, str_len, e, List.length_cons]; omega
  · exact Nat.le_refl _
theorem okDs_no {ds : List Nat} (h : ds.length = 0 ∨ 30 < ds.length ∨ ∃ c ∈ ds, ¬ (48 ≤ c ∧ c ≤ 57)) : okDs ds = false := by
  cases e : okDs ds with
  | false => rfl
  | true =>
    obtain ⟨h1, h2, h3⟩ := okDs_iff.mp e
    rcases h with h | h | ⟨c, hc, h⟩
    · omega
    · omega
    · exact absurd (h3 c hc) h
theorem okDs_yes {ds : List Nat} (h1 : ¬ ds.length = 0) (h2 : ds.length ≤ 30) (h3 : ∀ c ∈ ds, 48 ≤ c ∧ c ≤ 57) : okDs ds = true := okDs_iff.mpr ⟨by omega, h2, h3⟩
theorem DgOf.ne {z d : Str} {neg : Bool} (h : DgOf z d neg) : z ≠ d ↔ neg = true := by
  rcases h with ⟨rfl, e⟩ | ⟨rfl, rfl, _⟩
  · refine ⟨fun _ => rfl, fun _ h2 => ?_⟩
    rw [h2] at e
    have := congrArg List.length e
    rw [List.length_cons] at this
    omega
  · exact ⟨fun h => absurd rfl h, fun h => by cases h⟩
end
section
variable {P : Program} {w : World} {K : PySem.W.Frag} {mg : Str → Option Value} {base : Heap}
theorem ok_read_number {f : Addr} {fd : FuncData} (F : Fun K "read_number" "read_number" s_read_number f fd) (Z_len : mg "len" = none) (Z_int : mg "int" = none) : FnOk P w K mg base CX0 1 f fd ["word", "most"] spNum := by
  refine F.ok sc_read_number (fun vs H Q E h => ?_) (fun cdv A outer s H vs Q E hr h => ?_)
  · obtain ⟨_, rfl, _⟩ := h
    rfl
  · obtain ⟨z, rfl, hz, q⟩ := h
    have hzs : z.length ≤ sizeLine := sz_le (by omega)
    refine ⟨_, (pss_cons (ps_set (i := 2) sc_read_number.nd rfl (Or.inl rfl) (pv 0))
      (pss_cons (ps_if (pt_cmpR op_eq (pe_slice sl_str (pv 0) po_none (po_some pe_int)) pe_str (nomark _))
      (pss_one (ps_set (i := 2) sc_read_number.nd rfl (Or.inl rfl) (pe_slice sl_str (pv 0) (po_some pe_int) po_none)))
      pss_nil)
      (pss_cons (ps_if (pt_not (pt_chain op_le op_le pe_int (pe_callB call_lenA (by rfl) Z_len (by decide +kernel) (pa_cons (pv 2) pa_nil)) (pv 1)))
      (pss_one (ps_ret pe_non))
      pss_nil)
      (pss_cons (ps_for PassesOwn.never rfl (pi_str (pv 2)) (pg_name (i := 3) sc_read_number.nd rfl (Or.inl rfl))
      (pss_one (ps_if (pt_cmpR op_ninSA (pv 3) pe_str rfl)
      (pss_one (ps_ret pe_non))
      pss_nil)))
      (pss_cons (ps_if (PW.pt (pw_and (pt_cmpR op_eq (pe_ix ix_str (pv 2) pe_int (fun _ _ => rfl)) pe_str (nomark _)) (pw_and1 (PW.pt (pw_or (pt_cmpR op_gt (pe_callB call_lenA (by rfl) Z_len (by decide +kernel) (pa_cons (pv 2) pa_nil)) pe_int (nomark _)) (pw_or1 (pt_cmpR op_ne (pv 0) (pv 2) (nomark _))))))))
      (pss_one (ps_ret pe_non))
      pss_nil)
      (pss_one (ps_ret (pe_callTy call_int_str (by rfl) Z_int (by decide +kernel) (pa_cons (pv 0) pa_nil))))))))), ?_⟩
    refine x_seq ?_
    refine x_set ?_
    refine x_var (v := .str z) rfl ?_
    refine x_seq ?_
    refine if_join (α := Str × Bool) (fun u => DgOf z u.1 u.2) (fun u => [some (.str z), some (.int 30), some (.str u.1), none]) (fun n' hn' => ?_) ?_
    · walk_at "go"
      refine ⟨z, rfl, hzs, ?_⟩
      walk_at "go"
      refine x_dec (fun h => ?_) (fun h => ?_)
      · walk_at "go"
        refine ⟨z, rfl, hzs, ?_⟩
        exact hn' (cutS z (some 1) none, true) (dg_neg ((cut_minus z).mp h))
      · walk_at "go"
        exact hn' (z, false) (.inr ⟨rfl, rfl, fun e => h ((cut_minus z).mpr e)⟩)
    · rintro ⟨d, neg⟩ dg
      dsimp only at dg ⊢
      have dl := dg.len
      have dls : d.length ≤ sizeLine := Nat.le_trans dl hzs
      have el := str_len d
      have no : okDs d.cps.toList = false → Q .non H := fun h => by
        rw [num_no dg h] at q
        exact q
      walk_at "go"
      refine x_lenS dls ?_
      walk_at "go"
      refine x_dec (fun h1 => ?_) (fun h1 => ?_)
      · walk_at "go"
        refine x_ndec (fun h30 => ?_) (fun h30 => ?_)
        · walk_at "go"
          exact no (okDs_no (by omega))
        · walk_at "go"
          refine lpS (fun i σ H' => ∃ v, σ = [some (.str z), some (.int 30), some (.str d), v] ∧ H' = H ∧ ∀ j c, j < i → d.cps.toList[j]? = some c → 48 ≤ c ∧ c ≤ 57) ?_ ?_ ?_
          · exact ⟨none, rfl, rfl, fun j c hj => absurd hj (by omega)⟩
          · rintro i c σ H' hi ⟨v, rfl, rfl, hall⟩
            have hi2 : d.cps.toList[i]? = some c := by rw [Array.getElem?_toList]; exact hi
            walk_at "go"
            refine x_ndec (fun hc => ?_) (fun hc => ?_)
            · walk_at "go"
              exact no (okDs_no (.inr (.inr ⟨c, List.mem_of_getElem? hi2, fun h => hc (mem10.mpr h)⟩)))
            · walk_at "go"
              refine ⟨_, rfl, rfl, fun j c' hj hc' => ?_⟩
              rcases Nat.lt_or_ge j i with e | e
              · exact hall j c' e hc'
              · have : j = i := by omega
                subst this
                rw [hi2] at hc'
                cases hc'
                exact mem10.mp hc
          · rintro σ H' ⟨v, rfl, rfl, hall⟩
            have ho : okDs d.cps.toList = true := okDs_yes (by omega) (by omega) fun c hc => by
              obtain ⟨j, hj, e⟩ := List.getElem_of_mem hc
              exact hall j c (by simpa using hj) (by rw [List.getElem?_eq_getElem hj, e])
            obtain ⟨n, n1, n2, n3, n4, _⟩ := num_all dg ho
            rw [n4] at q
            obtain ⟨a, r, ha⟩ : ∃ a r, d.cps.toList = a :: r := by
              cases e : d.cps.toList with
              | nil => rw [el, e] at h1; exact absurd h1 (by simp)
              | cons a r => exact ⟨a, r, rfl⟩
            have e0 : (⟨#[a]⟩ : Str) = Str.ofString "0" ↔ d.cps.toList.head? = some 48 := by
              rw [ha]
              constructor
              · intro h
                have := congrArg (fun s : Str => s.cps.toList) h
                have this : [a] = [48] := this
                injection this with this _
                rw [this]; rfl
              · intro h
                have : a = 48 := Option.some.inj h
                rw [this]; rfl
            walk_at "go"
            refine x_ixs 0 dls rfl (by rw [ha]; rfl) ?_
            walk_at "go"
            refine x_dec (fun h0 => ?_) (fun h0 => ?_)
            · walk_at "go"
              refine x_lenS dls ?_
              walk_at "go"
              refine x_dec (fun hl => ?_) (fun hl => ?_)
              · walk_at "go"
                rw [if_pos ⟨e0.mp h0, .inl (by omega)⟩] at q
                exact q
              · walk_at "go"
                refine x_ndec (fun hn => ?_) (fun hn => ?_)
                · walk_at "go"
                  rw [if_pos ⟨e0.mp h0, .inr (dg.ne.mp hn)⟩] at q
                  exact q
                · walk_at "go"
                  refine ⟨z, n, rfl, n1, by omega, ?_⟩
                  rw [if_neg (fun hb => hb.2.elim (fun h => hl (by omega)) fun h => absurd hn (dg.ne.mpr h))] at q
                  exact q
            · walk_at "go"
              refine ⟨z, n, rfl, n1, by omega, ?_⟩
              rw [if_neg (fun hb => h0 (e0.mpr hb.1))] at q
              exact q
      · walk_at "go"
        exact no (okDs_no (by omega))
end
/-! ### isinstance(e, C), e the caught one, which has a dict -/
def rIsXD (K : PySem.W.Frag) (a : Addr) (cls : Value) (d : Option Addr) : List V → Hp → VK → Prop := fun xs H Q => ∃ (D dd : Addr) (l : List (Str × V)) (c : V) (cv : Value) (b : Bool), cls = .ref D ∧ d = some dd ∧ H dd = some (.xd l) ∧ ExcC K D ∧ xs = [.ref a, c] ∧ (∀ u, RelV c u → u = cv) ∧ PySem.W.kitOne K (.ref D) cv = some b ∧ Q (.bl b) H
theorem call_isXD {X : Cx} {a : Addr} {cls : Value} {d : Option Addr} {oe : Obj} {pn : List (Addr × Obj)} (hz : Zc cls d oe) (hf : ∃ vs, oe.data = .fields vs) : CallR (X.suite a ((a, oe) :: pn)) (.builtin "isinstance") (rIsXD X.K a cls d) := by
  intro pins s σ H xs us Q I r h
  obtain ⟨D, dd, l, c, cv, b, ec, ed, hdd, C, rfl, hcv, e, q⟩ := h
  cases r with
  | cons rx rr =>
    cases rr with
    | cons rt rr =>
      cases rr
      cases rx
      have ecv := hcv _ rt
      subst ecv
      subst ec
      subst ed
      obtain ⟨ha, _⟩ := I.pin (a, oe) (List.mem_append_left _ List.mem_cons_self)
      obtain ⟨vs, hd⟩ := hf
      have hx : ObjOk X.prog X.w H s.heap dd (.xd l) := I.hok dd _ hdd
      obtain ⟨mA, hns, hr⟩ := hx
      obtain ⟨od, ho, hl⟩ := lookIn_ns hns
      have J : PySem.W.InstAt s.heap a oe D (some od) := ⟨ha, hz.1, by unfold PySem.W.notCls; rw [hd] <;> rfl, by rw [hz.2]; exact ho⟩
      have hcl : (PySem.W.clsIn X.K D).isSome = true := by
        obtain ⟨cd, hc, _⟩ := PySem.W.any_some C.hd
        rw [hc]; rfl
      exact PySem.W.kia_one (PySem.W.kitx_exc hcl C.hg C.hk C.hs C.ha C.hn C.ht C.hm) I.kIn J e (fun z => nomatch z) fun tk => ⟨.bl b, H, I.kept (t' := tk) fun _ _ z => z, rfl, q⟩
section
variable {H : Hp} {Q : VK} {K : PySem.W.Frag} {a D C dd : Addr} {l : List (Str × V)} {b : Bool}
theorem x_isXD (hC : ExcC K D) (hd : H dd = some (.xd l)) (e : PySem.W.kitOne K (.ref D) (.ref C) = some b) (q : Q (.bl b) H) : rIsXD K a (.ref D) (some dd) [.ref a, .ref C] H Q :=
  ⟨D, dd, l, _, _, b, rfl, rfl, hd, hC, rfl, fun u r => r, e, q⟩
theorem x_isXDT {T : String} (hC : ExcC K D) (hd : H dd = some (.xd l)) (e : PySem.W.kitOne K (.ref D) (.type T) = some b) (q : Q (.bl b) H) : rIsXD K a (.ref D) (some dd) [.ref a, .ty T] H Q :=
  ⟨D, dd, l, _, _, b, rfl, rfl, hd, hC, rfl, fun u r => r, e, q⟩
end
/-! ### k93: the law's number, what is due -/
theorem lcS {σ : L2.St} {H : Hp} {te : TE} {g : TG} {tt : TT} {D : Addr} {vs : List Nat} {Qd : Hp → Prop} {z : Str} (Pv : Nat → Hp → Prop) (h0 : Pv 0 (upd H D (.lst [])))
    (hs : ∀ i d H, z.cps[i]? = some d → Pv i H → g (.str ⟨#[d]⟩) (wipe σ vs) H fun σ2 H2 => wipe σ2 vs = wipe σ vs ∧ tt σ2 H2 fun b H3 =>
      if b = true then te σ2 H3 fun y H4 => ∃ acc, H4 D = some (.lst acc) ∧ acc.length < sizeLine ∧ Pv (i + 1) (upd H4 D (.lst (acc ++ [y]))) else Pv (i + 1) H3) (hd : ∀ H, Pv z.cps.size H → Qd H) : LcP (Its z) g tt te vs σ D Qd H :=
  lc_by walk_str Pv h0 (fun _ _ _ _ => trivial) (fun i x H H' _ hp y => by obtain ⟨rfl, c, e, rfl⟩ := y; exact hs i c _ e hp) hd
theorem runS {R : It → Hp → Prop} {z : Str} {H : Hp} (q : R (Its z) H) : RunS R (.str z) H := ⟨z, rfl, q⟩
theorem x_m1 {r : V → List V → Hp → VK → Prop} {to te : TE} {σ : L2.St} {H : Hp} {Q : VK} (q : to σ H fun x H1 => (∃ a, x = .str a) ∧ te σ H1 fun y H2 => r x [y] H2 Q) : tM1 r to te σ H Q := q
def rFmtA (x : V) (H : Hp) (Q : VK) : Prop := (∃ y : Str, x = .str y ∧ y.length ≤ sizeLine ∧ Q (.str y) H) ∨ ∃ i : Int, x = .int i ∧ i.natAbs.log2 < 1920 ∧ Q (.str (toString i)) H
theorem x_fmt {te : TE} {σ : L2.St} {H : Hp} {Q : VK} (h : te σ H fun x H1 => rFmtA x H1 Q) : tFmt te σ H Q := h
theorem x_fmtI {i : Int} {H : Hp} {Q : VK} (h : i.natAbs.log2 < 1920) (q : Q (.str (toString i)) H) : rFmtA (.int i) H Q := .inr ⟨i, rfl, h, q⟩
theorem x_j {t : TE} {ts : List TE} {acc : Str} {σ : L2.St} {H : Hp} {R : Str → Hp → Prop} (h : t σ H fun x H1 => ∃ y : Str, x = .str y ∧ (acc ++ y).length ≤ sizeLine ∧ tJs ts (acc ++ y) σ H1 R) : tJs (t :: ts) acc σ H R := h
theorem x_j0 {acc : Str} {σ : L2.St} {H : Hp} {R : Str → Hp → Prop} (h : R acc H) : tJs [] acc σ H R := h
theorem sint_len {i : Int} (h : i.natAbs < 10 ^ 31) : (Str.ofString (toString i)).length ≤ 32 := by
  rcases Int.lt_or_le i 0 with c | c
  · obtain ⟨n, rfl⟩ : ∃ n : Nat, i = -(n : Int) := ⟨i.natAbs, by omega⟩
    rw [str_len, tl_neg n (by omega), List.length_cons]
    have := TL.numL_len (n := n) (k := 31) (by decide) (by omega)
    omega
  · obtain ⟨n, rfl⟩ : ∃ n : Nat, i = (n : Int) := ⟨i.natAbs, by omega⟩
    rw [str_len, tl_pos n]
    have := TL.numL_len (n := n) (k := 31) (by decide) (by omega)
    omega
theorem frW_two {z a b : Str} (h : Txt.split z slash = [a, b]) : frW z = match numW a, numW b with
    | some x, some y => if 1 ≤ y ∧ Int.gcd x y = 1 then some (x, y) else none
    | _, _ => none := by
  unfold frW
  rw [h] <;> rfl
theorem frW_not {z : Str} (h : (Txt.split z slash).length ≠ 2) : frW z = none := by
  unfold frW
  split
  · next a b e => rw [e] at h; exact absurd rfl h
  · rfl
theorem app_len (a b : Str) : (a ++ b).length = a.length + b.length := by rw [str_len, tl_app, List.length_append, ← str_len, ← str_len]
theorem two_len {z a b : Str} (h : Txt.split z slash = [a, b]) : a.length ≤ z.length ∧ b.length ≤ z.length := by
  have e := split_back z h
  have := congrArg Str.length e
  rw [app_len, app_len] at this
  omega
theorem num_bd {z : Str} {n : Int} (h : numW z = some n) : n.natAbs < 10 ^ 30 := by
  have key : ∀ ds : List Nat, okDs ds = true → NumText.digitsVal ds < 10 ^ 30 := fun ds ho => by
    obtain ⟨_, h2, h3⟩ := okDs_iff.mp ho
    exact Nat.lt_of_lt_of_le (dv_lt _ h3) (Nat.pow_le_pow_right (by decide) h2)
  unfold numW at h
  generalize z.cps.toList = cs at h
  unfold numL2 at h
  split at h
  · next ds =>
    split at h
    · next hc => have := key ds hc.1; cases h; omega
    · cases h
  · split at h
    · next hc => have := key _ hc.1; cases h; omega
    · cases h
/-- an error of class C with a field goes out -/
def EXF (E : XK) (H : Hp) (C : Addr) (y : Str) (v : V) : Prop := ∀ H' d, L2.Same H H' → H' d = none → E (.ref C) (some d) (upd H' d (.xd [(y, v)]))
def spFrText : Sp := fun vs H Q _ => ∃ (a : Addr) (x y : Int), vs = [.ref a] ∧ H a = some (.tup [.int x, .int y]) ∧ x.natAbs < 10 ^ 31 ∧ y.natAbs < 10 ^ 31 ∧ Q (.str (Str.ofString (toString x) ++ slash ++ Str.ofString (toString y))) H
def FrOk (H : Hp) (Q : VK) (x y : Int) : Prop := ∀ H' p, L2.Same H H' → H p = none → H' p = some (.tup [.int x, .int y]) → Q (.ref p) H'
def spDue : Sp := fun vs H Q _ => ∃ z : Str, vs = [.str z] ∧ z.length ≤ 9000 ∧ ((∃ x y, frW z = some (x, y) ∧ FrOk H Q x y) ∨ (frW z = none ∧ ∀ H', L2.Same H H' → Q .non H'))
def spReadR : Sp := fun vs H Q _ => ∃ (z : Str) (x y : Int), vs = [.str z] ∧ z.length ≤ 9000 ∧ frW z = some (x, y) ∧ FrOk H Q x y
def spReadX (K : PySem.W.Frag) (CT : Addr) : Sp := fun vs H Q E => ∃ v : V, vs = [v] ∧ ((∃ z x y, v = .str z ∧ z.length ≤ 9000 ∧ frW z = some (x, y) ∧ FrOk H Q x y) ∨ (∃ z, v = .str z ∧ z.length ≤ 9000 ∧ frW z = none ∧ EXF E H CT "line" (.int 1)) ∨ ∃ k, Kd K H v k ∧ k ≠ .str ∧ EXF E H CT "line" (.int 0))
section
variable {P : Program} {w : World} {K : PySem.W.Frag} {mg : Str → Option Value} {base : Heap} {CT CO : Addr}
theorem ok_l_number {f : Addr} {fd : FuncData} (F : Fun K "_law_number" "_law_number" s_l_number f fd) (Z_len : mg "len" = none) (Z_int : mg "int" = none) (Z_str : mg "str" = none) (Z_all : mg "all" = none) : FnOk P w K mg base CX0 1 f fd ["_law_word", "_law_most"] spNumL := by
  refine F.ok sc_l_number (fun vs H Q E h => ?_) (fun cdv A outer s H vs Q E hr h => ?_)
  · obtain ⟨_, rfl, _⟩ := h
    rfl
  · obtain ⟨z, rfl, hz, q⟩ := h
    have hzs : z.length ≤ sizeLine := sz_le (by omega)
    refine ⟨_, (pss_cons (ps_set (i := 2) sc_l_number.nd rfl (Or.inl rfl) (pv 0))
      (pss_cons (ps_if (pt_cmpR op_eq (pe_slice sl_str (pv 0) po_none (po_some pe_int)) pe_str (nomark _))
      (pss_one (ps_set (i := 2) sc_l_number.nd rfl (Or.inl rfl) (pe_slice sl_str (pv 0) (po_some pe_int) po_none)))
      pss_nil)
      (pss_cons (ps_if (PW.pt (pw_or (pt_cmpR op_eq (pe_callB call_lenA (by rfl) Z_len (by decide +kernel) (pa_cons (pv 2) pa_nil)) pe_int (nomark _)) (pw_or1 (pt_cmpR op_gt (pe_callB call_lenA (by rfl) Z_len (by decide +kernel) (pa_cons (pv 2) pa_nil)) (pv 1) (nomark _)))))
      (pss_one (ps_ret pe_non))
      pss_nil)
      (pss_cons (ps_if (pt_not (pt_val (pe_callB (cr_all rfl) (by rfl) Z_all (by decide +kernel) (pa_cons (pe_lc (own := [("_law_char", 3)]) (g := gName 3) (tt := tYes) (by rfl) sc_l_number.nd (pi_str (pv 2)) (blkOk_by (own := [("_law_char", 3)]) (N := N_l_number) (sc := defScope s_l_number) (by decide +kernel)) (fun _ _ _ _ _ => (pg_name (i := 3) sc_l_number.nd rfl (Or.inl rfl))) (fun _ _ _ _ _ => pts_nil) (fun _ _ _ _ _ => by exact (pe_cmpR op_inSA (pv 3) pe_str rfl))) pa_nil))))
      (pss_one (ps_ret pe_non))
      pss_nil)
      (pss_cons (ps_if (pt_cmpR op_ne (pe_callTy call_strIA (by rfl) Z_str (by decide +kernel) (pa_cons (pe_callTy call_int_str (by rfl) Z_int (by decide +kernel) (pa_cons (pv 0) pa_nil)) pa_nil)) (pv 0) (nomark _))
      (pss_one (ps_ret pe_non))
      pss_nil)
      (pss_one (ps_ret (pe_callTy call_int_str (by rfl) Z_int (by decide +kernel) (pa_cons (pv 0) pa_nil))))))))), ?_⟩
    refine x_seq ?_
    refine x_set ?_
    refine x_var (v := .str z) rfl ?_
    refine x_seq ?_
    refine if_join (α := Str × Bool) (fun u => DgOf z u.1 u.2) (fun u => [some (.str z), some (.int 30), some (.str u.1), none]) (fun n' hn' => ?_) ?_
    · walk_at "go"
      refine ⟨z, rfl, hzs, ?_⟩
      walk_at "go"
      refine x_dec (fun h => ?_) (fun h => ?_)
      · walk_at "go"
        refine ⟨z, rfl, hzs, ?_⟩
        exact hn' (cutS z (some 1) none, true) (dg_neg ((cut_minus z).mp h))
      · walk_at "go"
        exact hn' (z, false) (.inr ⟨rfl, rfl, fun e => h ((cut_minus z).mpr e)⟩)
    · rintro ⟨d, neg⟩ dg
      dsimp only at dg ⊢
      have dl := dg.len
      have dls : d.length ≤ sizeLine := Nat.le_trans dl hzs
      have el := str_len d
      have no : okDs d.cps.toList = false → ∀ H', L2.Same H H' → Q .non H' := fun h H' s' => by
        have q := q H' s'
        rw [num_no dg h] at q
        exact q
      walk_at "go"
      refine x_lenS dls ?_
      walk_at "go"
      refine x_dec (fun h1 => ?_) (fun h1 => ?_)
      · walk_at "go"
        exact no (okDs_no (by omega)) _ (L2.Same.refl _)
      · walk_at "go"
        refine x_lenS dls ?_
        walk_at "go"
        refine x_dec (fun h30 => ?_) (fun h30 => ?_)
        · walk_at "go"
          exact no (okDs_no (by omega)) _ (L2.Same.refl _)
        · walk_at "go"
          refine runS fun D hD => ?_
          have dsz : d.cps.size = d.cps.toList.length := by simp
          refine lcS (fun i H' => L2.Same H H' ∧ H' D = some (.lst (((d.cps.toList.take i).map fun c => decide (48 ≤ c ∧ c ≤ 57)).map V.bl))) ⟨same_new hD, upd_same⟩ ?_ ?_
          · rintro i c H' hi ⟨s2, hD2⟩
            have hi2 : d.cps.toList[i]? = some c := by rw [Array.getElem?_toList]; exact hi
            have hil := (List.getElem?_eq_some_iff.mp hi2).1
            walk_at "go"
            refine ⟨rfl, ?_⟩
            walk_at "go"
            refine ⟨_, hD2, sz_lt (by rw [List.length_map, List.length_map, List.length_take]; omega), same_upd s2 hD, ?_⟩
            rw [upd_same, take_succ_get hi2, List.map_append, List.map_append]
            refine congrArg (fun z => some (HO.lst (_ ++ [V.bl z]))) (decide_eq_decide.mpr mem10)
          · rintro H' ⟨s2, hD2⟩
            rw [dsz, List.take_length] at hD2
            walk_at "go"
            refine ⟨D, _, rfl, SqL.of hD2, ?_⟩
            cases ea : (d.cps.toList.map fun c => decide (48 ≤ c ∧ c ≤ 57)).all id with
            | false =>
              walk_at "go"
              refine no (okDs_no (.inr (.inr ?_))) _ s2
              obtain ⟨b, hb, hb2⟩ := List.all_eq_false.mp ea
              obtain ⟨c, hc, rfl⟩ := List.mem_map.mp hb
              exact ⟨c, hc, by simpa using hb2⟩
            | true =>
              have ho : okDs d.cps.toList = true := okDs_yes (by omega) (by omega) fun c hc => by
                have := List.all_eq_true.mp ea _ (List.mem_map.mpr ⟨c, hc, rfl⟩)
                simpa using this
              obtain ⟨n, n1, n2, n3, n4, n5⟩ := num_all dg ho
              have q := q H' s2
              rw [n4] at q
              walk_at "go"
              refine ⟨z, n, rfl, n1, by omega, ?_⟩
              walk_at "go"
              refine x_strI (abs_log (by omega)) ?_
              walk_at "go"
              refine x_ndec (fun hne => ?_) (fun hne => ?_)
              · walk_at "go"
                rw [if_pos (Decidable.not_not.mp fun h => hne (n5.mpr h))] at q
                exact q
              · walk_at "go"
                refine ⟨z, n, rfl, n1, by omega, ?_⟩
                rw [if_neg (n5.mp hne)] at q
                exact q
theorem ok_fraction_text {f : Addr} {fd : FuncData} (F : Fun K "fraction_text" "fraction_text" s_fraction_text f fd) : FnOk P w K mg base CX0 1 f fd ["fraction"] spFrText := by
  refine F.ok sc_fraction_text (fun vs H Q E h => ?_) (fun cdv A outer s H vs Q E hr h => ?_)
  · obtain ⟨_, _, _, rfl, _⟩ := h
    rfl
  · obtain ⟨a, x, y, rfl, ha, hx, hy, q⟩ := h
    refine ⟨_, (pss_one (ps_ret (pe_joined (.cons (pe_fmt (pe_ix ix_tup (pv 0) pe_int (fun _ _ => rfl))) (.cons pe_str (.cons (pe_fmt (pe_ix ix_tup (pv 0) pe_int (fun _ _ => rfl))) .nil)))))), ?_⟩
    have lx := sint_len hx
    have ly := sint_len hy
    have l0 : Str.empty.length = 0 := rfl
    have ls : slash.length = 1 := rfl
    walk_at "go"
    refine x_j ?_
    refine x_fmt ?_
    walk_at "go"
    refine x_ixt 0 (SqT.of ha) rfl rfl ?_
    refine x_fmtI (abs_log hx) ?_
    refine ⟨_, rfl, sz_le (by rw [app_len]; omega), ?_⟩
    refine x_j ?_
    walk_at "go"
    refine ⟨_, rfl, sz_le (by rw [app_len, app_len]; show _ + slash.length ≤ _; omega), ?_⟩
    refine x_j ?_
    refine x_fmt ?_
    walk_at "go"
    refine x_ixt 1 (SqT.of ha) rfl rfl ?_
    refine x_fmtI (abs_log hy) ?_
    refine ⟨_, rfl, sz_le (by rw [app_len, app_len, app_len]; show _ + slash.length + _ ≤ _; omega), ?_⟩
    refine x_j0 ?_
    have e : Str.empty ++ Str.ofString (toString x) = Str.ofString (toString x) := str_ext (by rw [tl_app]; rfl)
    rw [e]
    exact q
theorem ok_l_due {f : Addr} {fd : FuncData} (F : Fun K "_law_due" "_law_due" s_l_due f fd) (Z_len : mg "len" = none) (Z_abs : mg "abs" = none) (C_l_number : Cal P w K mg base 1 "_law_number" ["_law_word", "_law_most"] spNumL) (C_l_divisor : Cal P w K mg base 1 "_law_divisor" ["_law_one", "_law_other"] spDivL) : FnOk P w K mg base CX0 2 f fd ["_law_text_here"] spDue := by
  refine F.ok sc_l_due (fun vs H Q E h => ?_) (fun cdv A outer s H vs Q E hr h => ?_)
  · obtain ⟨_, rfl, _⟩ := h
    rfl
  · obtain ⟨z, rfl, hz, q⟩ := h
    refine ⟨_, (pss_cons (ps_set (i := 1) sc_l_due.nd rfl (Or.inl rfl) (pe_split (pv 0) pe_str))
      (pss_cons (ps_if (pt_cmpR op_ne (pe_callB call_lenA (by rfl) Z_len (by decide +kernel) (pa_cons (pv 1) pa_nil)) pe_int (nomark _))
      (pss_one (ps_ret pe_non))
      pss_nil)
      (pss_cons (ps_set (i := 2) sc_l_due.nd rfl (Or.inl rfl) (pe_cal C_l_number (hr.mono (by decide)) (by rfl) (pa_cons (pe_ix ix_list (pv 1) pe_int (fun _ _ => rfl)) (pa_cons pe_int pa_nil))))
      (pss_cons (ps_set (i := 3) sc_l_due.nd rfl (Or.inl rfl) (pe_cal C_l_number (hr.mono (by decide)) (by rfl) (pa_cons (pe_ix ix_list (pv 1) pe_int (fun _ _ => rfl)) (pa_cons pe_int pa_nil))))
      (pss_cons (ps_if (PW.pt (pw_or (pt_cmpR op_isNA (pv 2) pe_non (nomark _)) (pw_or (pt_cmpR op_isNA (pv 3) pe_non (nomark _)) (pw_or (pt_cmpR op_lt (pv 3) pe_int (nomark _)) (pw_or1 (pt_cmpR op_ne (pe_cal C_l_divisor (hr.mono (by decide)) (by rfl) (pa_cons (pe_callB call_absA (by rfl) Z_abs (by decide +kernel) (pa_cons (pv 2) pa_nil)) (pa_cons (pv 3) pa_nil))) pe_int (nomark _)))))))
      (pss_one (ps_ret pe_non))
      pss_nil)
      (pss_one (ps_ret (pe_tup (pa_cons (pv 2) (pa_cons (pv 3) pa_nil)))))))))), ?_⟩
    walk_at "go"
    refine x_m1 ?_
    walk_at "go"
    refine ⟨⟨_, rfl⟩, ?_⟩
    walk_at "go"
    refine ⟨z, slash, rfl, rfl, by decide, sz_le (by omega), fun p hp => ?_⟩
    have s1 := same_new (o := .lst ((Txt.split z slash).map V.str)) hp
    have hp1 : (upd H p (.lst ((Txt.split z slash).map V.str))) p = _ := upd_same
    generalize upd H p (.lst ((Txt.split z slash).map V.str)) = H1 at s1 hp1
    have no : frW z = none → ∀ H', L2.Same H H' → Q .non H' := fun h => by
      rcases q with ⟨x, y, e, _⟩ | ⟨_, q⟩
      · rw [h] at e; cases e
      · exact q
    walk_at "go"
    rw [List.length_map]
    refine x_ndec (fun hne => ?_) (fun hne => ?_)
    · walk_at "go"
      exact no (frW_not fun h => hne (by omega)) _ s1
    · obtain ⟨a, b, hab⟩ : ∃ a b, Txt.split z slash = [a, b] := by
        match h : Txt.split z slash with
        | [a, b] => exact ⟨a, b, rfl⟩
        | [] => rw [h] at hne; simp at hne
        | [_] => rw [h] at hne; simp at hne
        | _ :: _ :: _ :: r => rw [h] at hne; simp at hne; omega
      obtain ⟨la, lb⟩ := two_len hab
      rw [hab] at hp1
      have hp1 : H1 p = some (.lst [.str a, .str b]) := hp1
      have fw := frW_two hab
      walk_at "go"
      refine x_ixl 0 (SqL.of hp1) rfl rfl ?_
      walk_at "go"
      refine ⟨a, rfl, by omega, fun H2 s2 => ?_⟩
      walk_at "go"
      refine x_ixl 1 (SqL.of (s2 _ _ hp1)) rfl rfl ?_
      walk_at "go"
      refine ⟨b, rfl, by omega, fun H3 s3 => ?_⟩
      have s03 := (s1.trans s2).trans s3
      walk_at "go"
      cases ea : numW a with
      | none =>
        rw [ea] at fw
        walk_at "go"
        refine x_yes rfl ?_
        walk_at "go"
        exact no fw _ s03
      | some x =>
        rw [ea] at fw
        refine x_no (by intro h; cases h) ?_
        walk_at "go"
        cases eb : numW b with
        | none =>
          rw [eb] at fw
          refine x_yes rfl ?_
          walk_at "go"
          exact no fw _ s03
        | some y =>
          rw [eb] at fw
          have fw : frW z = if 1 ≤ y ∧ Int.gcd x y = 1 then some (x, y) else none := fw
          have hx := num_bd ea
          have hy := num_bd eb
          show if decide (V.int y = V.non) = true then _ else _
          refine x_no (by intro h; cases h) ?_
          show tOr _ _ [some (.str z), some (.ref p), some (.int x), some (.int y)] H3 _
          walk_at "go"
          refine x_dec (fun hy1 => ?_) (fun hy1 => ?_)
          · walk_at "go"
            rw [if_neg (fun h => by omega)] at fw
            exact no fw _ s03
          · walk_at "go"
            have ea : (if x < 0 then -x else x) = (x.natAbs : Int) := by split <;> omega
            have eb : y = (y.natAbs : Int) := by omega
            refine ⟨x.natAbs, y.natAbs, by rw [ea, ← eb], by omega, ?_⟩
            rw [euc_val hx hy]
            walk_at "go"
            refine x_ndec (fun hg => ?_) (fun hg => ?_)
            · walk_at "go"
              rw [if_neg (fun h => hg (by have : Nat.gcd x.natAbs y.natAbs = 1 := h.2; omega))] at fw
              exact no fw _ s03
            · walk_at "go"
              rw [if_pos ⟨by omega, by show Nat.gcd x.natAbs y.natAbs = 1; omega⟩] at fw
              rcases q with ⟨x1, y1, e, q⟩ | ⟨e, _⟩
              · rw [fw] at e
                cases e
                refine ⟨sz_le (by simp), fun t nt => ?_⟩
                exact q _ t (s03.trans (same_new nt)) (s03.free nt) upd_same
              · rw [fw] at e; cases e
/-- the walk of read_fraction, where it raises nothing or tells what -/
theorem frW_cases {z a b : Str} (h : Txt.split z slash = [a, b]) : (frB (numW a) (numW b) = true ∧ ∃ x y, numW a = some x ∧ numW b = some y ∧ frW z = some (x, y)) ∨ (frB (numW a) (numW b) = false ∧ frW z = none) := by
  rw [frW_two h]
  cases ea : numW a with
  | none => exact .inr ⟨rfl, rfl⟩
  | some x =>
    cases eb : numW b with
    | none => exact .inr ⟨rfl, rfl⟩
    | some y =>
      by_cases hc : 1 ≤ y ∧ Int.gcd x y = 1
      · refine .inl ⟨decide_eq_true hc, x, y, rfl, rfl, ?_⟩
        show (if 1 ≤ y ∧ Int.gcd x y = 1 then some (x, y) else none) = _
        rw [if_pos hc]
      · refine .inr ⟨decide_eq_false hc, ?_⟩
        show (if 1 ≤ y ∧ Int.gcd x y = 1 then some (x, y) else none) = _
        rw [if_neg hc]
theorem two_of {l : List Str} (h : l.length = 2) : ∃ a b, l = [a, b] := by
  match l, h with
  | [a, b], _ => exact ⟨a, b, rfl⟩
theorem ok_read_fraction {f : Addr} {fd : FuncData} (F : Fun K "read_fraction" "read_fraction" s_read_fraction f fd) (Z_str : mg "str" = none) (Z_len : mg "len" = none) (Z_isinstance : mg "isinstance" = none) (C_read_number : Cal P w K mg base 1 "read_number" ["word", "most"] spNum)
    (C_is_fraction : Cal P w K mg base 2 "is_fraction" ["thing"] (spIsFr K)) : FnOk P w K mg base CX0 3 f fd ["text"] spReadR := by
  refine F.ok sc_read_fraction (fun vs H Q E h => ?_) (fun cdv A outer s H vs Q E hr h => ?_)
  · obtain ⟨_, _, _, rfl, _⟩ := h
    rfl
  · obtain ⟨z, x, y, rfl, hz, hf, q⟩ := h
    refine ⟨_, (pss_cons (ps_if (pt_not (pt_val (pe_callB call_isi (by rfl) Z_isinstance (by decide +kernel) (pa_cons (pv 0) (pa_cons (pe_bltn (v := .ty "str") (by rfl) Z_str (by decide +kernel) rfl) pa_nil)))))
      (pss_one ps_never)
      pss_nil)
      (pss_cons (ps_set (i := 1) sc_read_fraction.nd rfl (Or.inl rfl) (pe_split (pv 0) pe_str))
      (pss_cons (ps_if (pt_cmpR op_ne (pe_callB call_lenA (by rfl) Z_len (by decide +kernel) (pa_cons (pv 1) pa_nil)) pe_int (nomark _))
      (pss_one ps_never)
      pss_nil)
      (pss_cons (ps_set (i := 2) sc_read_fraction.nd rfl (Or.inl rfl) (pe_tup (pa_cons (pe_cal C_read_number (hr.mono (by decide)) (by rfl) (pa_cons (pe_ix ix_list (pv 1) pe_int (fun _ _ => rfl)) (pa_cons pe_int pa_nil))) (pa_cons (pe_cal C_read_number (hr.mono (by decide)) (by rfl) (pa_cons (pe_ix ix_list (pv 1) pe_int (fun _ _ => rfl)) (pa_cons pe_int pa_nil))) pa_nil))))
      (pss_cons (ps_if (pt_not (pt_val (pe_cal C_is_fraction (hr.mono (by decide)) (by rfl) (pa_cons (pv 2) pa_nil))))
      (pss_one ps_never)
      pss_nil)
      (pss_one (ps_ret (pv 2)))))))), ?_⟩
    walk_at "go"
    refine x_isiStr (.str z) ?_
    walk_at "go"
    refine x_nT ?_
    walk_at "go"
    refine x_m1 ?_
    walk_at "go"
    refine ⟨⟨_, rfl⟩, ?_⟩
    walk_at "go"
    refine ⟨z, slash, rfl, rfl, by decide, sz_le (by omega), fun p hp => ?_⟩
    have s1 := same_new (o := .lst ((Txt.split z slash).map V.str)) hp
    have hp1 : (upd H p (.lst ((Txt.split z slash).map V.str))) p = _ := upd_same
    generalize upd H p (.lst ((Txt.split z slash).map V.str)) = H1 at s1 hp1
    have h2 : (Txt.split z slash).length = 2 := by
      apply Decidable.byContradiction
      intro h
      rw [frW_not h] at hf
      cases hf
    obtain ⟨a, b, hab⟩ := two_of h2
    obtain ⟨la, lb⟩ := two_len hab
    rw [hab] at hp1
    have hp1 : H1 p = some (.lst [.str a, .str b]) := hp1
    walk_at "go"
    refine x_nyes rfl ?_
    walk_at "go"
    refine x_ixl 0 (SqL.of hp1) rfl rfl ?_
    walk_at "go"
    refine ⟨a, rfl, by omega, ?_⟩
    walk_at "go"
    refine x_ixl 1 (SqL.of hp1) rfl rfl ?_
    walk_at "go"
    refine ⟨b, rfl, by omega, ?_⟩
    walk_at "go"
    refine ⟨sz_le (by simp), fun t nt => ?_⟩
    rcases frW_cases hab with ⟨hb, x1, y1, e1, e2, e3⟩ | ⟨_, e3⟩
    · rw [hf] at e3
      cases e3
      walk_at "go"
      refine ⟨t, numW a, numW b, rfl, upd_same, fun y2 e => by have := num_bd e; omega, ?_⟩
      rw [hb]
      walk_at "go"
      rw [e1, e2]
      refine q _ t (s1.trans (same_new nt)) (s1.free nt) upd_same
    · rw [hf] at e3; cases e3
theorem ok_read_fractionX {f : Addr} {fd : FuncData} (F : Fun K "read_fraction" "read_fraction" s_read_fraction f fd) (Z_str : mg "str" = none) (Z_len : mg "len" = none) (Z_isinstance : mg "isinstance" = none) (C_read_number : Cal P w K mg base 1 "read_number" ["word", "most"] spNum)
    (C_is_fraction : Cal P w K mg base 2 "is_fraction" ["thing"] (spIsFr K)) (E_BadText : ExcF P K mg "BadText" "line" CT) : FnOk P w K mg base (L2.CX P w) 3 f fd ["text"] (spReadX K CT) := by
  refine F.okX sc_read_fraction (fun vs H Q E h => ?_) (fun cdv A outer s H vs Q E hr h => ?_)
  · obtain ⟨_, rfl, _⟩ := h
    rfl
  · obtain ⟨v, rfl, cs⟩ := h
    refine ⟨_, (pss_cons (ps_if (pt_not (pt_val (pe_callB call_isi (by rfl) Z_isinstance (by decide +kernel) (pa_cons (pv 0) (pa_cons (pe_bltn (v := .ty "str") (by rfl) Z_str (by decide +kernel) rfl) pa_nil)))))
      (pss_one (ps_raiseS rfl (takes_of rfl rfl rfl rfl) E_BadText hr (by rfl) (pa_cons pe_int pa_nil)))
      pss_nil)
      (pss_cons (ps_set (i := 1) sc_read_fraction.nd rfl (Or.inl rfl) (pe_split (pv 0) pe_str))
      (pss_cons (ps_if (pt_cmpR op_ne (pe_callB call_lenA (by rfl) Z_len (by decide +kernel) (pa_cons (pv 1) pa_nil)) pe_int (nomark _))
      (pss_one (ps_raiseS rfl (takes_of rfl rfl rfl rfl) E_BadText hr (by rfl) (pa_cons pe_int pa_nil)))
      pss_nil)
      (pss_cons (ps_set (i := 2) sc_read_fraction.nd rfl (Or.inl rfl) (pe_tup (pa_cons (pe_cal C_read_number (hr.mono (by decide)) (by rfl) (pa_cons (pe_ix ix_list (pv 1) pe_int (fun _ _ => rfl)) (pa_cons pe_int pa_nil))) (pa_cons (pe_cal C_read_number (hr.mono (by decide)) (by rfl) (pa_cons (pe_ix ix_list (pv 1) pe_int (fun _ _ => rfl)) (pa_cons pe_int pa_nil))) pa_nil))))
      (pss_cons (ps_if (pt_not (pt_val (pe_cal C_is_fraction (hr.mono (by decide)) (by rfl) (pa_cons (pv 2) pa_nil))))
      (pss_one (ps_raiseS rfl (takes_of rfl rfl rfl rfl) E_BadText hr (by rfl) (pa_cons pe_int pa_nil)))
      pss_nil)
      (pss_one (ps_ret (pv 2)))))))), ?_⟩
    walk_at "go"
    have cs2 : (∃ z, v = .str z ∧ z.length ≤ 9000 ∧ ((∃ x y, frW z = some (x, y) ∧ FrOk H Q x y) ∨ (frW z = none ∧ EXF E H CT "line" (.int 1)))) ∨ ∃ k, Kd K H v k ∧ k ≠ .str ∧ EXF E H CT "line" (.int 0) := by
      rcases cs with ⟨z, x, y, e, hz, hf, q⟩ | ⟨z, e, hz, hf, q⟩ | h
      · exact .inl ⟨z, e, hz, .inl ⟨x, y, hf, q⟩⟩
      · exact .inl ⟨z, e, hz, .inr ⟨hf, q⟩⟩
      · exact .inr h
    clear cs
    rcases cs2 with ⟨z, rfl, hz, cs⟩ | ⟨k, hk, hks, q⟩
    · refine x_isiStr (.str z) ?_
      walk_at "go"
      refine x_nT ?_
      walk_at "go"
      refine x_m1 ?_
      walk_at "go"
      refine ⟨⟨_, rfl⟩, ?_⟩
      walk_at "go"
      refine ⟨z, slash, rfl, rfl, by decide, sz_le (by omega), fun p hp => ?_⟩
      have s1 := same_new (o := .lst ((Txt.split z slash).map V.str)) hp
      have hp1 : (upd H p (.lst ((Txt.split z slash).map V.str))) p = _ := upd_same
      generalize upd H p (.lst ((Txt.split z slash).map V.str)) = H1 at s1 hp1
      have bad : frW z = none → EXF E H CT "line" (.int 1) := fun h => by
        rcases cs with ⟨x, y, e, _⟩ | ⟨_, q⟩
        · rw [h] at e; cases e
        · exact q
      walk_at "go"
      rw [List.length_map]
      refine x_ndec (fun hne => ?_) (fun hne => ?_)
      · walk_at "go"
        refine x_raiseS ?_
        walk_at "go"
        exact ⟨_, rfl, fun d hd => bad (frW_not fun h => hne (by omega)) _ d s1 hd⟩
      · obtain ⟨a, b, hab⟩ := two_of (show (Txt.split z slash).length = 2 by omega)
        obtain ⟨la, lb⟩ := two_len hab
        rw [hab] at hp1
        have hp1 : H1 p = some (.lst [.str a, .str b]) := hp1
        walk_at "go"
        refine x_ixl 0 (SqL.of hp1) rfl rfl ?_
        walk_at "go"
        refine ⟨a, rfl, by omega, ?_⟩
        walk_at "go"
        refine x_ixl 1 (SqL.of hp1) rfl rfl ?_
        walk_at "go"
        refine ⟨b, rfl, by omega, ?_⟩
        walk_at "go"
        refine ⟨sz_le (by simp), fun t nt => ?_⟩
        walk_at "go"
        refine ⟨t, numW a, numW b, rfl, upd_same, fun y2 e => by have := num_bd e; omega, ?_⟩
        rcases frW_cases hab with ⟨hb, x1, y1, e1, e2, e3⟩ | ⟨hb, e3⟩
        · rw [hb]
          walk_at "go"
          rcases cs with ⟨x, y, e, q⟩ | ⟨e, _⟩
          · rw [e3] at e
            cases e
            rw [e1, e2]
            exact q _ t (s1.trans (same_new nt)) (s1.free nt) upd_same
          · rw [e3] at e; cases e
        · rw [hb]
          walk_at "go"
          refine x_raiseS ?_
          walk_at "go"
          exact ⟨_, rfl, fun d hd => bad e3 _ d (s1.trans (same_new nt)) hd⟩
    · refine x_isiStr hk ?_
      rw [show isB k .str = false by cases k <;> first | rfl | exact absurd rfl hks]
      walk_at "go"
      refine x_raiseS ?_
      walk_at "go"
      exact ⟨_, rfl, fun d hd => q _ d (L2.Same.refl _) hd⟩
/-- what the law tells of a thing -/
def spTold (K : PySem.W.Frag) : Sp := fun vs H Q _ => ∃ v : V, vs = [v] ∧ ((∃ z x y, v = .str z ∧ z.length ≤ 9000 ∧ frW z = some (x, y) ∧ ∀ H' t p, L2.Same H H' → H' p = some (.tup [.int x, .int y]) → H' t = some (.tup [.str "is", .ref p]) → Q (.ref t) H') ∨
  (∃ z, v = .str z ∧ z.length ≤ 9000 ∧ frW z = none ∧ ∀ H' t, L2.Same H H' → H' t = some (.tup [.str "text", .int 1]) → Q (.ref t) H') ∨ ∃ k, Kd K H v k ∧ k ≠ .str ∧ ∀ H' t, L2.Same H H' → H' t = some (.tup [.str "text", .int 0]) → Q (.ref t) H')
theorem x_sEnd {D : Ends} {σ : L2.St} {H : Hp} {i : Nat} (q : D.nx (σ.set i none) H) : (sEnds i D).nx σ H := q
theorem ok_l_told {f : Addr} {fd : FuncData} (F : Fun K "_law_told" "_law_told" s_l_told f fd) (Z_isinstance : mg "isinstance" = none) (X_read_fraction : CalX P w K mg base 3 "read_fraction" ["text"] (spReadX K CT)) (G_BadText : mg "BadText" = some (.ref CT)) (G_OwnError : mg "OwnError" = some (.ref CO))
    (hit : PySem.W.exmOne K (.ref CT) (.ref CO) = some true) (k1 : PySem.W.kitOne K (.ref CT) (.ref CT) = some true) (G_T : ExcG K CT "line") (E_T : ExcC K CT) : FnOk P w K mg base CX0 4 f fd ["_law_thing"] (spTold K) := by
  refine F.ok sc_l_told (fun vs H Q E h => ?_) (fun cdv A outer s H vs Q E hr h => ?_)
  · obtain ⟨_, rfl, _⟩ := h
    rfl
  · obtain ⟨v, rfl, cs⟩ := h
    refine ⟨_, (pss_cons (ps_tryAs (i := 2) sc_l_told.nd rfl rfl rfl rfl (by rfl) G_OwnError takesN
      (fun W pn xe tk hp => psEq (pss_one (ps_set (i := 1) sc_l_told.nd rfl (Or.inl rfl) (pe_calX X_read_fraction (hr.mono (by decide)) (by rfl) tk (pa_cons (pv 0) pa_nil)))))
      (fun a oe cls d pn hz hf => psEq (pss_cons (ps_if (pt_not (pt_val (pe_callB (call_isXD hz hf) (by rfl) Z_isinstance (by decide +kernel) (pa_cons (pv 2) (pa_cons (pe_glob (v := .ref _) (by rfl) G_BadText rfl) pa_nil)))))
      (pss_one (ps_ret pe_non))
      pss_nil)
      (pss_one (ps_ret (pe_tup (pa_cons pe_str (pa_cons (pe_byS hz hf (pv 2)) pa_nil))))))))
      (pss_one (ps_ret (pe_tup (pa_cons pe_str (pa_cons (pv 1) pa_nil)))))), ?_⟩
    walk_at "go"
    refine x_try ?_
    walk_at "go"
    refine x_callS ?_
    walk_at "go"
    refine ⟨v, rfl, ?_⟩
    rcases cs with ⟨z, x, y, e, hz, hf, q⟩ | ⟨z, e, hz, hf, q⟩ | ⟨k, hk, hks, q⟩
    · refine .inl ⟨z, x, y, e, hz, hf, fun H1 p s1 hp0 hp1 => ?_⟩
      walk_at "go"
      refine ⟨sz_le (by simp), fun t nt => ?_⟩
      exact q _ t p (s1.trans (same_new nt)) (by rw [upd_ne (ne_of_none hp1 nt)]; exact hp1) upd_same
    · refine .inr (.inl ⟨z, e, hz, hf, fun HX d sX hd => ?_⟩)
      refine x_caughtE hit (fun ex hex => ?_)
      walk_at "go"
      refine x_isXD E_T upd_same k1 ?_
      walk_at "go"
      refine x_byV G_T rfl upd_same ?_
      walk_at "go"
      refine ⟨sz_le (by simp), fun t nt => ?_⟩
      exact q _ t ((sX.trans (same_new hd)).trans (same_new nt)) upd_same
    · refine .inr (.inr ⟨k, hk, hks, fun HX d sX hd => ?_⟩)
      refine x_caughtE hit (fun ex hex => ?_)
      walk_at "go"
      refine x_isXD E_T upd_same k1 ?_
      walk_at "go"
      refine x_byV G_T rfl upd_same ?_
      walk_at "go"
      refine ⟨sz_le (by simp), fun t nt => ?_⟩
      exact q _ t ((sX.trans (same_new hd)).trans (same_new nt)) upd_same
end
/-! ### a text many times -/
def repS (i : Str) (n : Nat) : Str := ⟨(List.replicate n i.cps).foldl (· ++ ·) #[]⟩
theorem fold_size (a : Array Nat) : ∀ (n : Nat) (acc : Array Nat), ((List.replicate n a).foldl (· ++ ·) acc).size = acc.size + n * a.size
  | 0, acc => by simp
  | n + 1, acc => by
    rw [List.replicate_succ, List.foldl_cons, fold_size a n, Array.size_append, Nat.succ_mul]
    omega
theorem repS_len (i : Str) (n : Nat) : (repS i n).length = n * i.length := by
  show ((List.replicate n i.cps).foldl (· ++ ·) #[]).size = n * i.cps.size
  rw [fold_size]
  simp
def rRepS : R2 := fun x y H Q => ∃ (i : Str) (n : Nat), x = .str i ∧ y = .int (n : Int) ∧ 2 ≤ n ∧ n ≤ 10000 ∧ 1 ≤ i.length ∧ n * i.length ≤ 10000 ∧ Q (.str (repS i n)) H
theorem op_repS {X : Cx} : OpR X (binaryOp .Mult) rRepS := by
  intro pins s σ H x y v u Q I rx ry h
  obtain ⟨i, n, rfl, rfl, h2, h3, h4, h5, q⟩ := h
  obtain ⟨t, rfl⟩ := rx
  obtain ⟨t2, rfl⟩ := ry
  have e1 : (i.length * (n : Int).toNat) ≤ 10000 := by rw [Int.toNat_natCast, Nat.mul_comm]; exact h5
  refine PySem.P.mul_str ?_ (fun _ _ => ?_) (fun _ _ => ?_) ?_
  · rw [decide_eq_false (by omega), decide_eq_false (by omega)]
    rfl
  · have h6 : i.length ≤ 10000 := Nat.le_trans (Nat.le_mul_of_pos_left _ (by omega)) h5
    have h7 : (10000 : Int) ≤ (2 ^ 63 - 1) / (n : Int) := Int.le_ediv_of_mul_le (by omega) (by omega)
    omega
  · exact decide_eq_false (by
      have : sizeLine = 10000000 ∨ True := .inr trivial
      have := sz_le e1
      omega)
  · rw [if_neg (by omega), if_neg]
    · refine ⟨?_, .str (repS i n), H, I.tok _, ⟨_, rfl⟩, q⟩
      show (repS i n).length ≤ sizeLine
      rw [repS_len]
      exact sz_le h5
    · rw [Bool.or_eq_true, beq_iff_eq, beq_iff_eq]
      rintro (h | h) <;> omega
theorem x_repS {i : Str} {n : Nat} {H : Hp} {Q : VK} {k : Int} (hk : k = (n : Int)) (h2 : 2 ≤ n) (h3 : n ≤ 10000) (h4 : 1 ≤ i.length) (h5 : n * i.length ≤ 10000) (q : ∀ z : Str, z.length = n * i.length → Q (.str z) H) : rRepS (.str i) (.int k) H Q :=
  ⟨i, n, rfl, by rw [hk], h2, h3, h4, h5, q _ (repS_len i n)⟩
/-! ### k93: a text drawn -/
def spLFrac : Sp := fun vs H Q _ => ∃ (t b : Int), vs = [.int t, .int b] ∧ t.natAbs < 10 ^ 30 ∧ 1 ≤ b ∧ b ≤ 10 ^ 30 ∧ ∀ H' a x y, L2.Same H H' → H a = none → H' a = some (.tup [.int x, .int y]) → x.natAbs < 10 ^ 31 → y.natAbs < 10 ^ 31 → Q (.ref a) H'
def spLFText : Sp := fun vs H Q _ => ∃ (a : Addr) (x y : Int), vs = [.ref a] ∧ H a = some (.tup [.int x, .int y]) ∧ x.natAbs < 10 ^ 31 ∧ y.natAbs < 10 ^ 31 ∧ ∀ z : Str, z.length ≤ 70 → Q (.str z) H
def spGreat : Sp := fun vs H Q _ => ∃ p : Addr, vs = [.ref p] ∧ PoolAt H p ∧ ∀ H' r, But p H H' → PoolAt H' p → 0 ≤ r → r < 10 ^ 30 → Q (.int r) H'
def spAmount : Sp := fun vs H Q _ => ∃ p : Addr, vs = [.ref p] ∧ PoolAt H p ∧ ∀ H' a x y, But p H H' → PoolAt H' p → H' a = some (.tup [.int x, .int y]) → a ≠ p → x.natAbs < 10 ^ 31 → y.natAbs < 10 ^ 31 → Q (.ref a) H'
def spStrP (B : Nat) : Sp := fun vs H Q _ => ∃ p : Addr, vs = [.ref p] ∧ PoolAt H p ∧ ∀ H' z, But p H H' → PoolAt H' p → z.length ≤ B → Q (.str z) H'
theorem len1 (d : Nat) : (⟨#[d]⟩ : Str).length = 1 := rfl
theorem div_bd {t d N : Int} (h1 : -N ≤ t) (h2 : t ≤ N) (h0 : 0 ≤ N) (hd : 1 ≤ d) : -N ≤ t / d ∧ t / d ≤ N := by
  have h3 : N * 1 ≤ N * d := Int.mul_le_mul_of_nonneg_left hd h0
  rw [Int.mul_one] at h3
  have e : -N * d = -(N * d) := Int.neg_mul _ _
  refine ⟨Int.le_ediv_of_mul_le (by omega) (by rw [e]; omega), ?_⟩
  refine Int.le_of_lt_add_one (Int.ediv_lt_of_lt_mul (by omega) ?_)
  rw [Int.add_mul]
  omega
theorem e9 : (10 : Int) ^ Int.toNat 9 = 1000000000 := by decide +kernel
theorem e30 : (10 : Int) ^ Int.toNat 30 = 1000000000000000000000000000000 := by decide +kernel
section
variable {P : Program} {w : World} {K : PySem.W.Frag} {mg : Str → Option Value} {base : Heap}
theorem ok_l_fraction {f : Addr} {fd : FuncData} (F : Fun K "_law_fraction" "_law_fraction" s_l_fraction f fd) (Z_abs : mg "abs" = none) (C_l_divisor : Cal P w K mg base 1 "_law_divisor" ["_law_one", "_law_other"] spDivL) : FnOk P w K mg base CX0 2 f fd ["_law_top", "_law_bottom"] spLFrac := by
  refine F.ok sc_l_fraction (fun vs H Q E h => ?_) (fun cdv A outer s H vs Q E hr h => ?_)
  · obtain ⟨_, _, rfl, _⟩ := h
    rfl
  · obtain ⟨t, b, rfl, ht, hb, hb2, q⟩ := h
    refine ⟨_, (pss_cons (ps_set (i := 2) sc_l_fraction.nd rfl (Or.inl rfl) (pe_cal C_l_divisor (hr.mono (by decide)) (by rfl) (pa_cons (pe_callB call_absA (by rfl) Z_abs (by decide +kernel) (pa_cons (pv 0) pa_nil)) (pa_cons (pv 1) pa_nil))))
      (pss_one (ps_ret (pe_tup (pa_cons (pe_op op_fdivA (pv 0) (pv 2)) (pa_cons (pe_op op_fdivA (pv 1) (pv 2)) pa_nil)))))), ?_⟩
    walk_at "go"
    have ea : (if t < 0 then -t else t) = (t.natAbs : Int) := by split <;> omega
    have eb : b = (b.natAbs : Int) := by omega
    refine ⟨t.natAbs, b.natAbs, by rw [ea, ← eb], by omega, ?_⟩
    have hd := euc_pos 399 t.natAbs b.natAbs (by omega)
    have hd2 : (euc 400 (t.natAbs, b.natAbs)).1 ≤ t.natAbs + b.natAbs := by
      have key : ∀ k (p : Nat × Nat), (euc k p).1 ≤ p.1 + p.2 := fun k => by
        induction k with
        | zero => exact fun p => Nat.le_add_right _ _
        | succ k ih =>
          intro p
          unfold euc
          split
          · exact Nat.le_add_right _ _
          · have := ih (p.2, p.1 % p.2)
            have h2 := Nat.mod_le p.1 p.2
            have this : (euc k (p.2, p.1 % p.2)).1 ≤ p.2 + p.1 % p.2 := this
            omega
      exact key 400 _
    generalize (euc 400 (t.natAbs, b.natAbs)).1 = d at hd hd2
    have b1 := div_bd (t := t) (d := (d : Int)) (N := 10 ^ 30) (by omega) (by omega) (by omega) (by omega)
    have b2 := div_bd (t := b) (d := (d : Int)) (N := 10 ^ 30) (by omega) (by omega) (by omega) (by omega)
    walk_at "go"
    refine ⟨sz_le (by simp), fun a na => ?_⟩
    exact q _ a _ _ (same_new na) na upd_same (by omega) (by omega)
theorem ok_l_fraction_text {f : Addr} {fd : FuncData} (F : Fun K "_law_fraction_text" "_law_fraction_text" s_l_fraction_text f fd) (Z_str : mg "str" = none) : FnOk P w K mg base CX0 1 f fd ["_law_fraction_here"] spLFText := by
  refine F.ok sc_l_fraction_text (fun vs H Q E h => ?_) (fun cdv A outer s H vs Q E hr h => ?_)
  · obtain ⟨_, _, _, rfl, _⟩ := h
    rfl
  · obtain ⟨a, x, y, rfl, ha, hx, hy, q⟩ := h
    have lx := sint_len hx
    have ly := sint_len hy
    refine ⟨_, (pss_one (ps_ret (pe_op op_addSA (pe_op op_addSA (pe_callTy call_strIA (by rfl) Z_str (by decide +kernel) (pa_cons (pe_ix ix_tup (pv 0) pe_int (fun _ _ => rfl)) pa_nil)) pe_str) (pe_callTy call_strIA (by rfl) Z_str (by decide +kernel) (pa_cons (pe_ix ix_tup (pv 0) pe_int (fun _ _ => rfl)) pa_nil))))), ?_⟩
    walk_at "go"
    refine x_ixt 0 (SqT.of ha) rfl rfl ?_
    walk_at "go"
    refine x_strI (abs_log hx) ?_
    walk_at "go"
    refine x_addS (sz_le (by show _ + slash.length ≤ _; rw [show slash.length = 1 from rfl]; omega)) ?_
    walk_at "go"
    refine x_ixt 1 (SqT.of ha) rfl rfl ?_
    walk_at "go"
    refine x_strI (abs_log hy) ?_
    walk_at "go"
    have l2 : (Str.ofString (toString x) ++ slash).length ≤ 33 := by rw [app_len, show slash.length = 1 from rfl]; omega
    refine x_addS (sz_le (show (Str.ofString (toString x) ++ slash).length + _ ≤ 10000 by omega)) ?_
    exact q _ (by
      show ((Str.ofString (toString x) ++ slash) ++ Str.ofString (toString y)).length ≤ 70
      rw [app_len]
      omega)
theorem ok_l_great {f : Addr} {fd : FuncData} (F : Fun K "_law_great" "_law_great" s_l_great f fd) (Z_range : mg "range" = none) (Z_int : mg "int" = none) (C_draw : Cal P w K mg base 1 "_law_draw" ["_law_pool_here", "_law_many"] spDraw) : FnOk P w K mg base CX0 2 f fd ["_law_pool_here"] spGreat := by
  refine F.ok sc_l_great (fun vs H Q E h => ?_) (fun cdv A outer s H vs Q E hr h => ?_)
  · obtain ⟨_, rfl, _⟩ := h
    rfl
  · obtain ⟨p, rfl, hp, q⟩ := h
    refine ⟨_, (pss_cons (ps_set (i := 1) sc_l_great.nd rfl (Or.inl rfl) (pe_cal C_draw (hr.mono (by decide)) (by rfl) (pa_cons (pv 0) (pa_cons (pe_op op_add (pe_op op_powW pe_int pe_int) pe_int) pa_nil))))
      (pss_cons (ps_for PassesOwn.never rfl (pi_range1 rfl Z_range (pa_cons (pe_cal C_draw (hr.mono (by decide)) (by rfl) (pa_cons (pv 0) (pa_cons pe_int pa_nil))) pa_nil)) (pg_name (i := 2) sc_l_great.nd rfl (Or.inl rfl))
      (pss_one (ps_set (i := 1) sc_l_great.nd rfl (Or.inl rfl) (pe_op op_add (pe_op op_mulA (pv 1) (pe_op op_powW pe_int pe_int)) (pe_cal C_draw (hr.mono (by decide)) (by rfl) (pa_cons (pv 0) (pa_cons (pe_op op_add (pe_op op_powW pe_int pe_int) pe_int) pa_nil)))))))
      (pss_one (ps_ret (pe_op op_mod (pe_callTy call_intA (by rfl) Z_int (by decide +kernel) (pa_cons (pv 1) pa_nil)) (pe_op op_powW pe_int pe_int)))))), ?_⟩
    walk_at "go"
    rw [e9]
    refine ⟨p, _, rfl, hp, by omega, by omega, fun H1 n b1 p1 n0 n1 => ?_⟩
    walk_at "go"
    refine ⟨p, 4, rfl, p1, by decide, by decide, fun H2 c b2 p2 c0 c1 => ?_⟩
    walk_at "go"
    refine lpR (fun i σ H' => ∃ (n : Int) (v2 : Option V), σ = [some (.ref p), some (.int n), v2] ∧ But p H H' ∧ PoolAt H' p ∧ 0 ≤ n ∧ n < 10 ^ (10 * (i + 1))) ⟨by omega, by omega⟩ ?_ ?_ ?_
    · exact ⟨n, _, rfl, b1.trans b2, p2, n0, by show n < 10 ^ 10; omega⟩
    · rintro i σ H3 hi ⟨n, v2, rfl, b3, p3, n0, n1⟩
      have hi3 : i = 0 ∨ i = 1 ∨ i = 2 := by omega
      have n40 : n < 10 ^ 30 := by
        rcases hi3 with rfl | rfl | rfl
        · have : n < 10 ^ 10 := n1
          omega
        · have : n < 10 ^ 20 := n1
          omega
        · exact n1
      walk_at "go"
      rw [e9]
      walk_at "go"
      rw [e9]
      refine ⟨p, _, rfl, p3, by omega, by omega, fun H4 r b4 p4 r0 r1 => ?_⟩
      walk_at "go"
      refine ⟨_, _, rfl, b3.trans b4, p4, by omega, ?_⟩
      rcases hi3 with rfl | rfl | rfl
      · have n1 : n < 10 ^ 10 := n1
        show _ < (10 : Int) ^ 20
        omega
      · have n1 : n < 10 ^ 20 := n1
        show _ < (10 : Int) ^ 30
        omega
      · have n1 : n < 10 ^ 30 := n1
        show _ < (10 : Int) ^ 40
        omega
    · rintro σ H3 ⟨n, v2, rfl, b3, p3, n0, n1⟩
      walk_at "go"
      rw [e30]
      walk_at "go"
      exact q H3 _ b3 p3 (Int.emod_nonneg _ (by omega)) (Int.emod_lt_of_pos _ (by omega))
end
/-! ### k93: an amount, digits, a part, a text -/
theorem lit_at (s : Str) {n : Nat} (hn : s.cps.toList.length = n) {j : Int} (h0 : 0 ≤ j) (h1 : j < n) : ∃ d, s.cps.toList[j.toNat]? = some d := ⟨_, List.getElem?_eq_getElem (by omega)⟩
section
variable {P : Program} {w : World} {K : PySem.W.Frag} {mg : Str → Option Value} {base : Heap}
theorem ok_l_amount {f : Addr} {fd : FuncData} (F : Fun K "_law_amount" "_law_amount" s_l_amount f fd) (Z_int : mg "int" = none) (C_draw : Cal P w K mg base 1 "_law_draw" ["_law_pool_here", "_law_many"] spDraw) (C_l_great : Cal P w K mg base 2 "_law_great" ["_law_pool_here"] spGreat)
    (C_l_fraction : Cal P w K mg base 2 "_law_fraction" ["_law_top", "_law_bottom"] spLFrac) : FnOk P w K mg base CX0 3 f fd ["_law_pool_here"] spAmount := by
  refine F.ok sc_l_amount (fun vs H Q E h => ?_) (fun cdv A outer s H vs Q E hr h => ?_)
  · obtain ⟨_, rfl, _⟩ := h
    rfl
  · obtain ⟨p, rfl, hp, q⟩ := h
    refine ⟨_, (pss_cons (ps_set (i := 1) sc_l_amount.nd rfl (Or.inl rfl) (pe_cal C_draw (hr.mono (by decide)) (by rfl) (pa_cons (pv 0) (pa_cons pe_int pa_nil))))
      (pss_cons (ps_set (i := 2) sc_l_amount.nd rfl (Or.inl rfl) (pe_op op_sub pe_int (pe_op op_mulA pe_int (pe_cal C_draw (hr.mono (by decide)) (by rfl) (pa_cons (pv 0) (pa_cons pe_int pa_nil))))))
      (pss_cons (ps_if (pt_cmpR op_eq (pv 1) pe_int (nomark _))
      (pss_one (ps_ret (pe_tup (pa_cons pe_int (pa_cons pe_int pa_nil)))))
      pss_nil)
      (pss_cons (ps_if (pt_cmpR op_lt (pv 1) pe_int (nomark _))
      (pss_one (ps_ret (pe_cal C_l_fraction (hr.mono (by decide)) (by rfl) (pa_cons (pe_op op_mulA (pv 2) (pe_cal C_draw (hr.mono (by decide)) (by rfl) (pa_cons (pv 0) (pa_cons pe_int pa_nil)))) (pa_cons (pe_op op_add pe_int (pe_cal C_draw (hr.mono (by decide)) (by rfl) (pa_cons (pv 0) (pa_cons pe_int pa_nil)))) pa_nil)))))
      pss_nil)
      (pss_cons (ps_if (pt_cmpR op_eq (pv 1) pe_int (nomark _))
      (pss_one (ps_ret (pe_tup (pa_cons (pe_op op_mulA (pv 2) (pe_cal C_l_great (hr.mono (by decide)) (by rfl) (pa_cons (pv 0) pa_nil))) (pa_cons pe_int pa_nil)))))
      pss_nil)
      (pss_one (ps_ret (pe_cal C_l_fraction (hr.mono (by decide)) (by rfl) (pa_cons (pe_op op_mulA (pv 2) (pe_cal C_l_great (hr.mono (by decide)) (by rfl) (pa_cons (pv 0) pa_nil))) (pa_cons (pe_op op_add pe_int (pe_op op_mod (pe_callTy call_intA (by rfl) Z_int (by decide +kernel) (pa_cons (pe_cal C_l_great (hr.mono (by decide)) (by rfl) (pa_cons (pv 0) pa_nil)) pa_nil)) (pe_op op_sub (pe_op op_powW pe_int pe_int) pe_int))) pa_nil)))))))))), ?_⟩
    walk_at "go"
    refine ⟨p, 6, rfl, hp, by decide, by decide, fun H1 so b1 p1 s0 s1 => ?_⟩
    walk_at "go"
    refine ⟨p, 2, rfl, p1, by decide, by decide, fun H2 sg b2 p2 g0 g1 => ?_⟩
    have b02 := b1.trans b2
    obtain ⟨e, he, he1⟩ : ∃ e : Int, 1 - 2 * sg = e ∧ (e = 1 ∨ e = -1) := ⟨_, rfl, by omega⟩
    walk_at "go"
    rw [he]
    refine x_dec (fun h => ?_) (fun h => ?_)
    · walk_at "go"
      refine ⟨sz_le (by simp), fun a na => ?_⟩
      exact q _ a 0 1 (b02.trans (But.of_same (same_new na))) (p2.new na) upd_same (p2.ne na) (by decide) (by decide)
    · walk_at "go"
      refine x_dec (fun h => ?_) (fun h => ?_)
      · walk_at "go"
        refine ⟨p, 100, rfl, p2, by decide, by decide, fun H3 t b3 p3 t0 t1 => ?_⟩
        walk_at "go"
        refine ⟨p, 36, rfl, p3, by decide, by decide, fun H4 u b4 p4 u0 u1 => ?_⟩
        walk_at "go"
        refine ⟨e * t, 1 + u, rfl, ?_, by omega, by omega, fun H5 a x y s5 na ha hx hy => ?_⟩
        · rcases he1 with rfl | rfl <;> omega
        · exact q _ a x y ((b02.trans (b3.trans b4)).trans (But.of_same s5)) (p4.same s5) ha (p4.ne na) hx hy
      · walk_at "go"
        refine x_dec (fun h => ?_) (fun h => ?_)
        · walk_at "go"
          refine ⟨p, rfl, p2, fun H3 t b3 p3 t0 t1 => ?_⟩
          walk_at "go"
          refine ⟨sz_le (by simp), fun a na => ?_⟩
          refine q _ a (e * t) 1 ((b02.trans b3).trans (But.of_same (same_new na))) (p3.new na) upd_same (p3.ne na) ?_ (by decide)
          rcases he1 with rfl | rfl <;> omega
        · walk_at "go"
          refine ⟨p, rfl, p2, fun H3 t b3 p3 t0 t1 => ?_⟩
          walk_at "go"
          refine ⟨p, rfl, p3, fun H4 u b4 p4 u0 u1 => ?_⟩
          walk_at "go"
          rw [e30]
          walk_at "go"
          have m0 := Int.emod_nonneg u (show (1000000000000000000000000000000 - 1 : Int) ≠ 0 by omega)
          have m1 := Int.emod_lt_of_pos u (show (0 : Int) < 1000000000000000000000000000000 - 1 by omega)
          refine ⟨e * t, _, rfl, ?_, by omega, by omega, fun H5 a x y s5 na ha hx hy => ?_⟩
          · rcases he1 with rfl | rfl <;> omega
          · exact q _ a x y ((b02.trans (b3.trans b4)).trans (But.of_same s5)) (p4.same s5) ha (p4.ne na) hx hy
theorem ok_l_digits {f : Addr} {fd : FuncData} (F : Fun K "_law_digits" "_law_digits" s_l_digits f fd) (Z_range : mg "range" = none) (C_draw : Cal P w K mg base 1 "_law_draw" ["_law_pool_here", "_law_many"] spDraw) : FnOk P w K mg base CX0 2 f fd ["_law_pool_here"] (spStrP 40) := by
  refine F.ok sc_l_digits (fun vs H Q E h => ?_) (fun cdv A outer s H vs Q E hr h => ?_)
  · obtain ⟨_, rfl, _⟩ := h
    rfl
  · obtain ⟨p, rfl, hp, q⟩ := h
    refine ⟨_, (pss_cons (ps_set (i := 1) sc_l_digits.nd rfl (Or.inl rfl) (pe_ix ix_list (pe_lst (pa_cons pe_int (pa_cons pe_int (pa_cons pe_int (pa_cons pe_int (pa_cons pe_int (pa_cons pe_int (pa_cons pe_int (pa_cons pe_int pa_nil))))))))) (pe_cal C_draw (hr.mono (by decide)) (by rfl) (pa_cons (pv 0) (pa_cons pe_int pa_nil))) (fun _ _ => rfl)))
      (pss_cons (ps_set (i := 2) sc_l_digits.nd rfl (Or.inl rfl) (pe_ix ix_str pe_str (pe_cal C_draw (hr.mono (by decide)) (by rfl) (pa_cons (pv 0) (pa_cons pe_int pa_nil))) (fun _ _ => rfl)))
      (pss_cons (ps_for PassesOwn.never rfl (pi_range1 rfl Z_range (pa_cons (pe_op op_sub (pv 1) pe_int) pa_nil)) (pg_name (i := 3) sc_l_digits.nd rfl (Or.inl rfl))
      (pss_one (ps_set (i := 2) sc_l_digits.nd rfl (Or.inl rfl) (pe_op op_addSA (pv 2) (pe_ix ix_str pe_str (pe_cal C_draw (hr.mono (by decide)) (by rfl) (pa_cons (pv 0) (pa_cons pe_int pa_nil))) (fun _ _ => rfl))))))
      (pss_one (ps_ret (pv 2)))))), ?_⟩
    walk_at "go"
    refine ⟨sz_le (by simp), fun L nL => ?_⟩
    have hp1 := hp.new (o := .lst [.int 1, .int 2, .int 29, .int 30, .int 31, .int 32, .int 9, .int 10]) nL
    have b1 : But p H _ := But.of_same (same_new (o := .lst [.int 1, .int 2, .int 29, .int 30, .int 31, .int 32, .int 9, .int 10]) nL)
    walk_at "go"
    refine ⟨p, 8, rfl, hp1, by decide, by decide, fun H2 j b2 p2 j0 j1 => ?_⟩
    obtain ⟨sz, hsz, hsm⟩ := pickI [1, 2, 29, 30, 31, 32, 9, 10] j0 j1
    have hs32 : 1 ≤ sz ∧ sz ≤ 32 := by simp at hsm; omega
    refine x_ixl j.toNat (SqL.of (b2 L _ upd_same (hp.ne nL))) (by omega) hsz ?_
    walk_at "go"
    refine ⟨p, 9, rfl, p2, by decide, by decide, fun H3 t b3 p3 t0 t1 => ?_⟩
    obtain ⟨c, hc⟩ := lit_at (Str.ofString "123456789") (n := 9) (by decide +kernel) t0 t1
    refine x_ixs t.toNat (by decide +kernel) (by omega) hc ?_
    walk_at "go"
    refine lpR (fun i σ H' => ∃ (z : Str) (v3 : Option V), σ = [some (.ref p), some (.int sz), some (.str z), v3] ∧ But p H H' ∧ PoolAt H' p ∧ z.length ≤ i + 1) ⟨by omega, by omega⟩ ?_ ?_ ?_
    · exact ⟨_, _, rfl, (b1.trans b2).trans b3, p3, Nat.le_refl _⟩
    · rintro i σ H4 hi ⟨z, v3, rfl, b4, p4, hz⟩
      walk_at "go"
      refine ⟨p, 10, rfl, p4, by decide, by decide, fun H5 u b5 p5 u0 u1 => ?_⟩
      obtain ⟨c, hc⟩ := lit_at (Str.ofString "0123456789") (n := 10) (by decide +kernel) u0 u1
      refine x_ixs u.toNat (by decide +kernel) (by omega) hc ?_
      refine x_addS (sz_le (by rw [len1]; omega)) ?_
      walk_at "go"
      exact ⟨_, _, rfl, b4.trans b5, p5, by rw [app_len, len1]; omega⟩
    · rintro σ H4 ⟨z, v3, rfl, b4, p4, hz⟩
      walk_at "go"
      exact q H4 z b4 p4 (by omega)
theorem ok_l_part {f : Addr} {fd : FuncData} (F : Fun K "_law_part" "_law_part" s_l_part f fd) (Z_str : mg "str" = none) (C_draw : Cal P w K mg base 1 "_law_draw" ["_law_pool_here", "_law_many"] spDraw) (C_l_digits : Cal P w K mg base 2 "_law_digits" ["_law_pool_here"] (spStrP 40)) : FnOk P w K mg base CX0 3 f fd ["_law_pool_here"] (spStrP 60) := by
  refine F.ok sc_l_part (fun vs H Q E h => ?_) (fun cdv A outer s H vs Q E hr h => ?_)
  · obtain ⟨_, rfl, _⟩ := h
    rfl
  · obtain ⟨p, rfl, hp, q⟩ := h
    refine ⟨_, (pss_cons (ps_set (i := 1) sc_l_part.nd rfl (Or.inl rfl) (pe_cal C_draw (hr.mono (by decide)) (by rfl) (pa_cons (pv 0) (pa_cons pe_int pa_nil))))
      (pss_cons (ps_if (pt_cmpR op_eq (pv 1) pe_int (nomark _))
      (pss_one (ps_ret (pe_ix ix_list (pe_lst (pa_cons pe_str (pa_cons pe_str (pa_cons pe_str (pa_cons pe_str (pa_cons pe_str (pa_cons pe_str (pa_cons pe_str (pa_cons pe_str (pa_cons pe_str (pa_cons pe_str (pa_cons pe_str (pa_cons pe_str (pa_cons pe_str pa_nil)))))))))))))) (pe_cal C_draw (hr.mono (by decide)) (by rfl) (pa_cons (pv 0) (pa_cons pe_int pa_nil))) (fun _ _ => rfl))))
      pss_nil)
      (pss_cons (ps_if (pt_cmpR op_eq (pv 1) pe_int (nomark _))
      (pss_one (ps_ret (pe_op op_addSA pe_str (pe_cal C_l_digits (hr.mono (by decide)) (by rfl) (pa_cons (pv 0) pa_nil)))))
      pss_nil)
      (pss_cons (ps_if (pt_cmpR op_eq (pv 1) pe_int (nomark _))
      (pss_one (ps_ret (pe_callTy call_strIA (by rfl) Z_str (by decide +kernel) (pa_cons (pe_op op_sub (pe_cal C_draw (hr.mono (by decide)) (by rfl) (pa_cons (pv 0) (pa_cons pe_int pa_nil))) pe_int) pa_nil))))
      pss_nil)
      (pss_one (ps_ret (pe_cal C_l_digits (hr.mono (by decide)) (by rfl) (pa_cons (pv 0) pa_nil)))))))), ?_⟩
    walk_at "go"
    refine ⟨p, 6, rfl, hp, by decide, by decide, fun H1 so b1 p1 s0 s1 => ?_⟩
    walk_at "go"
    refine x_dec (fun h => ?_) (fun h => ?_)
    · walk_at "go"
      refine ⟨sz_le (by simp), fun L nL => ?_⟩
      have hL : ∀ z ∈ ([Str.ofString "0", Str.ofString "1", Str.ofString "-1", Str.ofString "-0", Str.ofString "00", Str.ofString "", Str.ofString "-", Str.ofString "+1", Str.ofString "01", Str.ofString " 1", Str.ofString "1 ", Str.ofString "a", Str.ofString "5000"] : List Str), z.length ≤ 60 := by decide +kernel
      have s2 := same_new (o := .lst (strsV [Str.ofString "0", Str.ofString "1", Str.ofString "-1", Str.ofString "-0", Str.ofString "00", Str.ofString "", Str.ofString "-", Str.ofString "+1", Str.ofString "01", Str.ofString " 1", Str.ofString "1 ", Str.ofString "a", Str.ofString "5000"])) nL
      have p2 := p1.new (o := .lst (strsV [Str.ofString "0", Str.ofString "1", Str.ofString "-1", Str.ofString "-0", Str.ofString "00", Str.ofString "", Str.ofString "-", Str.ofString "+1", Str.ofString "01", Str.ofString " 1", Str.ofString "1 ", Str.ofString "a", Str.ofString "5000"])) nL
      walk_at "go"
      refine ⟨p, 13, rfl, p2, by decide, by decide, fun H3 j b3 p3 j0 j1 => ?_⟩
      obtain ⟨z, hz, hz2⟩ := pickS [Str.ofString "0", Str.ofString "1", Str.ofString "-1", Str.ofString "-0", Str.ofString "00", Str.ofString "", Str.ofString "-", Str.ofString "+1", Str.ofString "01", Str.ofString " 1", Str.ofString "1 ", Str.ofString "a", Str.ofString "5000"] j0 j1
      refine x_ixl j.toNat (SqL.of (b3 L _ upd_same (p1.ne nL))) (by omega) hz ?_
      exact q _ z ((b1.trans (But.of_same s2)).trans b3) p3 (hL z (List.mem_of_getElem? hz2))
    · walk_at "go"
      refine x_dec (fun h => ?_) (fun h => ?_)
      · walk_at "go"
        refine ⟨p, rfl, p1, fun H2 z b2 p2 hz => ?_⟩
        have l1 : (Str.ofString "-").length = 1 := rfl
        refine x_addS (sz_le (by omega)) ?_
        exact q _ _ (b1.trans b2) p2 (by show (Str.ofString "-" ++ z).length ≤ 60; rw [app_len]; omega)
      · walk_at "go"
        refine x_dec (fun h => ?_) (fun h => ?_)
        · walk_at "go"
          refine ⟨p, 40, rfl, p1, by decide, by decide, fun H2 j b2 p2 j0 j1 => ?_⟩
          walk_at "go"
          refine x_strI (abs_log (by omega)) ?_
          exact q _ _ (b1.trans b2) p2 (Nat.le_trans (sint_len (by omega)) (by decide))
        · walk_at "go"
          refine ⟨p, rfl, p1, fun H2 z b2 p2 hz => ?_⟩
          exact q _ z (b1.trans b2) p2 (by omega)
end
/-! ### k93: a text drawn, perhaps changed -/
theorem cut_len (z : Str) (lo hi : Option Int) : (cutS z lo hi).length ≤ HT.sIx z.length z.length hi - HT.sIx z.length 0 lo := by
  show (((z.cps.toList.drop (HT.sIx z.length 0 lo)).take (HT.sIx z.length z.length hi - HT.sIx z.length 0 lo)).toArray).size ≤ _
  rw [List.size_toArray, List.length_take]
  omega
theorem cut_to_len (z : Str) {a : Int} (h : 0 ≤ a) : (cutS z none (some a)).length ≤ a.toNat := by
  have e := cut_len z none (some a)
  obtain ⟨n, rfl⟩ : ∃ n : Nat, a = n := ⟨a.toNat, by omega⟩
  rw [HT.sIx_nat, HT.sIx_none] at e
  omega
theorem cut_from_len (z : Str) {a : Int} (h : 0 ≤ a) : (cutS z (some a) none).length ≤ z.length - a.toNat := by
  have e := cut_len z (some a) none
  obtain ⟨n, rfl⟩ : ∃ n : Nat, a = n := ⟨a.toNat, by omega⟩
  rw [HT.sIx_nat, HT.sIx_none] at e
  omega
section
variable {P : Program} {w : World} {K : PySem.W.Frag} {mg : Str → Option Value} {base : Heap}
theorem ok_l_text {f : Addr} {fd : FuncData} (F : Fun K "_law_text" "_law_text" s_l_text f fd) (Z_range : mg "range" = none) (Z_len : mg "len" = none) (Z_str : mg "str" = none) (C_draw : Cal P w K mg base 1 "_law_draw" ["_law_pool_here", "_law_many"] spDraw) (C_l_part : Cal P w K mg base 3 "_law_part" ["_law_pool_here"] (spStrP 60))
    (C_l_amount : Cal P w K mg base 3 "_law_amount" ["_law_pool_here"] spAmount) (C_l_fraction_text : Cal P w K mg base 1 "_law_fraction_text" ["_law_fraction_here"] spLFText) : FnOk P w K mg base CX0 4 f fd ["_law_pool_here"] (spStrP 9000) := by
  refine F.ok sc_l_text (fun vs H Q E h => ?_) (fun cdv A outer s H vs Q E hr h => ?_)
  · obtain ⟨_, rfl, _⟩ := h
    rfl
  · obtain ⟨p, rfl, hp, q⟩ := h
    refine ⟨_, (pss_cons (ps_set (i := 1) sc_l_text.nd rfl (Or.inl rfl) (pe_cal C_draw (hr.mono (by decide)) (by rfl) (pa_cons (pv 0) (pa_cons pe_int pa_nil))))
      (pss_cons (ps_if (pt_cmpR op_eq (pv 1) pe_int (nomark _))
      (pss_one (ps_ret (pe_op op_addSA (pe_op op_repS pe_str pe_int) (pe_ix ix_list (pe_lst (pa_cons pe_str (pa_cons pe_str (pa_cons pe_str pa_nil)))) (pe_cal C_draw (hr.mono (by decide)) (by rfl) (pa_cons (pv 0) (pa_cons pe_int pa_nil))) (fun _ _ => rfl)))))
      pss_nil)
      (pss_cons (ps_if (pt_cmpR op_eq (pv 1) pe_int (nomark _))
      (pss_one (ps_ret (pe_op op_addSA (pe_op op_addSA (pe_cal C_l_part (hr.mono (by decide)) (by rfl) (pa_cons (pv 0) pa_nil)) pe_str) (pe_cal C_l_part (hr.mono (by decide)) (by rfl) (pa_cons (pv 0) pa_nil)))))
      pss_nil)
      (pss_cons (ps_if (pt_cmpR op_eq (pv 1) pe_int (nomark _))
      (pss_one (ps_ret (pe_op op_addSA (pe_op op_addSA (pe_callTy call_strIA (by rfl) Z_str (by decide +kernel) (pa_cons (pe_op op_sub (pe_cal C_draw (hr.mono (by decide)) (by rfl) (pa_cons (pv 0) (pa_cons pe_int pa_nil))) pe_int) pa_nil)) pe_str) (pe_callTy call_strIA (by rfl) Z_str (by decide +kernel) (pa_cons (pe_cal C_draw (hr.mono (by decide)) (by rfl) (pa_cons (pv 0) (pa_cons pe_int pa_nil))) pa_nil)))))
      pss_nil)
      (pss_cons (ps_set (i := 2) sc_l_text.nd rfl (Or.inl rfl) (pe_cal C_l_fraction_text (hr.mono (by decide)) (by rfl) (pa_cons (pe_cal C_l_amount (hr.mono (by decide)) (by rfl) (pa_cons (pv 0) pa_nil)) pa_nil)))
      (pss_cons (ps_for PassesOwn.never rfl (pi_range1 rfl Z_range (pa_cons (pe_ix ix_list (pe_lst (pa_cons pe_int (pa_cons pe_int (pa_cons pe_int pa_nil)))) (pv 1) (fun _ _ => rfl)) pa_nil)) (pg_name (i := 3) sc_l_text.nd rfl (Or.inl rfl))
      (pss_cons (ps_set (i := 4) sc_l_text.nd rfl (Or.inl rfl) (pe_cal C_draw (hr.mono (by decide)) (by rfl) (pa_cons (pv 0) (pa_cons (pe_op op_add (pe_callB call_lenA (by rfl) Z_len (by decide +kernel) (pa_cons (pv 2) pa_nil)) pe_int) pa_nil))))
      (pss_cons (ps_set (i := 5) sc_l_text.nd rfl (Or.inl rfl) (pe_ix ix_str pe_str (pe_cal C_draw (hr.mono (by decide)) (by rfl) (pa_cons (pv 0) (pa_cons pe_int pa_nil))) (fun _ _ => rfl)))
      (pss_cons (ps_set (i := 6) sc_l_text.nd rfl (Or.inl rfl) (pe_cal C_draw (hr.mono (by decide)) (by rfl) (pa_cons (pv 0) (pa_cons pe_int pa_nil))))
      (pss_one (ps_if (pt_cmpR op_eq (pv 6) pe_int (nomark _))
      (pss_one (ps_set (i := 2) sc_l_text.nd rfl (Or.inl rfl) (pe_op op_addSA (pe_op op_addSA (pe_slice sl_str (pv 2) po_none (po_some (pv 4))) (pv 5)) (pe_slice sl_str (pv 2) (po_some (pv 4)) po_none))))
      (pss_one (ps_if (pt_cmpR op_eq (pv 6) pe_int (nomark _))
      (pss_one (ps_set (i := 2) sc_l_text.nd rfl (Or.inl rfl) (pe_op op_addSA (pe_op op_addSA (pe_slice sl_str (pv 2) po_none (po_some (pv 4))) (pv 5)) (pe_slice sl_str (pv 2) (po_some (pe_op op_add (pv 4) pe_int)) po_none))))
      (pss_one (ps_set (i := 2) sc_l_text.nd rfl (Or.inl rfl) (pe_op op_addSA (pe_slice sl_str (pv 2) po_none (po_some (pv 4))) (pe_slice sl_str (pv 2) (po_some (pe_op op_add (pv 4) pe_int)) po_none))))))))))))
      (pss_one (ps_ret (pv 2))))))))), ?_⟩
    have lsl : (Str.ofString "/").length = 1 := rfl
    walk_at "go"
    refine ⟨p, 6, rfl, hp, by decide, by decide, fun H1 so b1 p1 s0 s1 => ?_⟩
    walk_at "go"
    refine x_dec (fun h5 => ?_) (fun h5 => ?_)
    · walk_at "go"
      refine x_repS (n := 5000) rfl (by decide) (by decide) (by decide +kernel) (by decide +kernel) fun z5 hz5 => ?_
      have hz5 : z5.length = 5000 := hz5
      walk_at "go"
      refine ⟨sz_le (by simp), fun L nL => ?_⟩
      have hL : ∀ z ∈ ([Str.ofString "", Str.ofString "/1", Str.ofString "/3"] : List Str), z.length ≤ 60 := by decide +kernel
      have s2 := same_new (o := .lst (strsV [Str.ofString "", Str.ofString "/1", Str.ofString "/3"])) nL
      have p2 := p1.new (o := .lst (strsV [Str.ofString "", Str.ofString "/1", Str.ofString "/3"])) nL
      walk_at "go"
      refine ⟨p, 3, rfl, p2, by decide, by decide, fun H3 j b3 p3 j0 j1 => ?_⟩
      obtain ⟨z, hz, hz2⟩ := pickS [Str.ofString "", Str.ofString "/1", Str.ofString "/3"] j0 j1
      have := hL z (List.mem_of_getElem? hz2)
      refine x_ixl j.toNat (SqL.of (b3 L _ upd_same (p1.ne nL))) (by omega) hz ?_
      refine x_addS (sz_le (by omega)) ?_
      exact q _ _ ((b1.trans (But.of_same s2)).trans b3) p3 (by rw [app_len]; omega)
    · walk_at "go"
      refine x_dec (fun h4 => ?_) (fun h4 => ?_)
      · walk_at "go"
        refine ⟨p, rfl, p1, fun H2 z b2 p2 hz => ?_⟩
        walk_at "go"
        refine x_addS (sz_le (by omega)) ?_
        walk_at "go"
        refine ⟨p, rfl, p2, fun H3 z3 b3 p3 hz3 => ?_⟩
        have l2 : (z ++ Str.ofString "/").length ≤ 61 := by rw [app_len]; omega
        refine x_addS (sz_le (by omega)) ?_
        exact q _ _ ((b1.trans b2).trans b3) p3 (by rw [app_len]; omega)
      · walk_at "go"
        refine x_dec (fun h3 => ?_) (fun h3 => ?_)
        · walk_at "go"
          refine ⟨p, 20, rfl, p1, by decide, by decide, fun H2 j b2 p2 j0 j1 => ?_⟩
          walk_at "go"
          refine x_strI (abs_log (by omega)) ?_
          have lj := sint_len (i := j - 9) (by omega)
          walk_at "go"
          refine x_addS (sz_le (by omega)) ?_
          walk_at "go"
          refine ⟨p, 20, rfl, p2, by decide, by decide, fun H3 i b3 p3 i0 i1 => ?_⟩
          walk_at "go"
          refine x_strI (abs_log (by omega)) ?_
          have li := sint_len (i := i) (by omega)
          have l2 : (Str.ofString (toString (j - 9)) ++ Str.ofString "/").length ≤ 33 := by rw [app_len]; omega
          walk_at "go"
          refine x_addS (sz_le (by omega)) ?_
          exact q _ _ ((b1.trans b2).trans b3) p3 (by rw [app_len]; omega)
        · walk_at "go"
          refine ⟨p, rfl, p1, fun H2 a x y b2 p2 ha nap hx hy => ?_⟩
          walk_at "go"
          refine ⟨a, x, y, rfl, ha, hx, hy, fun z0 hz0 => ?_⟩
          walk_at "go"
          refine ⟨sz_le (by simp), fun L nL => ?_⟩
          have p3 := p2.new (o := .lst [.int 0, .int 1, .int 2]) nL
          have b3 : But p H (upd H2 L (.lst [.int 0, .int 1, .int 2])) := (b1.trans b2).new nL
          obtain ⟨c, hc, hcm⟩ := pickI [0, 1, 2] s0 (show so < ([0, 1, 2] : List Int).length by simp; omega)
          have hc2 : 0 ≤ c ∧ c ≤ 2 := by simp at hcm; omega
          walk_at "go"
          refine x_ixl so.toNat (SqL.of upd_same) (by omega) hc ?_
          walk_at "go"
          refine lpR (fun i σ H' => ∃ (z : Str) (v3 v4 v5 v6 : Option V), σ = [some (.ref p), some (.int so), some (.str z), v3, v4, v5, v6] ∧ But p H H' ∧ PoolAt H' p ∧ z.length ≤ 70 + i) ⟨by omega, by omega⟩ ?_ ?_ ?_
          · exact ⟨z0, _, _, _, _, rfl, b3, p3, by omega⟩
          · rintro i σ H4 hi ⟨z, v3, v4, v5, v6, rfl, b4, p4, hz⟩
            have hzs : z.length ≤ sizeLine := sz_le (by omega)
            walk_at "go"
            refine x_lenS hzs ?_
            walk_at "go"
            refine ⟨p, _, rfl, p4, by omega, by omega, fun H5 at5 b5 p5 a0 a1 => ?_⟩
            walk_at "go"
            refine ⟨p, 18, rfl, p5, by decide, by decide, fun H6 u b6 p6 u0 u1 => ?_⟩
            obtain ⟨d, hd⟩ := lit_at (Str.ofString "0123456789-/+ \n.ab") (n := 18) (by decide +kernel) u0 u1
            refine x_ixs u.toNat (by decide +kernel) (by omega) hd ?_
            walk_at "go"
            refine ⟨p, 3, rfl, p6, by decide, by decide, fun H7 wy b7 p7 w0 w1 => ?_⟩
            have b47 := ((b4.trans b5).trans b6).trans b7
            have c1 := cut_to_len z a0
            have c2 := cut_from_len z a0
            have c3 := cut_from_len z (a := at5 + 1) (by omega)
            have ld := len1 d
            have go : ∀ w : Str, w.length ≤ z.length + 1 → ∃ (z : Str) (v3' v4' v5' v6' : Option V), [some (.ref p), some (.int so), some (.str w), some (.int (i : Int)), some (.int at5), some (.str ⟨#[d]⟩), some (.int wy)] = [some (.ref p), some (.int so), some (.str z), v3', v4', v5', v6'] ∧ But p H H7 ∧ PoolAt H7 p ∧ z.length ≤ 70 + (i + 1) :=
              fun w hw => ⟨w, _, _, _, _, rfl, b47, p7, by omega⟩
            walk_at "go"
            refine x_dec (fun hw => ?_) (fun hw => ?_)
            · walk_at "go"
              refine ⟨z, rfl, hzs, ?_⟩
              walk_at "go"
              refine x_addS (sz_le (by omega)) ?_
              have l2 : (cutS z none (some at5) ++ ⟨#[d]⟩).length ≤ 73 := by rw [app_len]; omega
              walk_at "go"
              refine ⟨z, rfl, hzs, ?_⟩
              refine x_addS (sz_le (by omega)) ?_
              walk_at "go"
              refine go _ ?_
              rw [app_len, app_len]
              omega
            · walk_at "go"
              refine x_dec (fun hw => ?_) (fun hw => ?_)
              · walk_at "go"
                refine ⟨z, rfl, hzs, ?_⟩
                walk_at "go"
                refine x_addS (sz_le (by omega)) ?_
                have l2 : (cutS z none (some at5) ++ ⟨#[d]⟩).length ≤ 73 := by rw [app_len]; omega
                walk_at "go"
                refine ⟨z, rfl, hzs, ?_⟩
                refine x_addS (sz_le (by omega)) ?_
                walk_at "go"
                refine go _ ?_
                rw [app_len, app_len]
                omega
              · walk_at "go"
                refine ⟨z, rfl, hzs, ?_⟩
                walk_at "go"
                refine ⟨z, rfl, hzs, ?_⟩
                refine x_addS (sz_le (by omega)) ?_
                walk_at "go"
                refine go _ ?_
                rw [app_len]
                omega
          · rintro σ H4 ⟨z, v3, v4, v5, v6, rfl, b4, p4, hz⟩
            walk_at "go"
            exact q H4 z b4 p4 (by omega)
end
/-! ### displays of dicts -/
theorem x_disp {trs : List (TE × TE)} {σ : L2.St} {H : Hp} {Q : VK} (h : ∀ p, H p = none → tPairs trs σ (upd H p (.dK [])) fun ps H2 => H2 p = some (.dK []) ∧ ∃ kvs : List (Key × V), ps = kvs.map (fun kv => (kV kv.1, kv.2)) ∧ kvs.length ≤ 15 ∧ Q (.ref p) (upd H2 p (.dK (mergeK [] kvs)))) : tDisp trs σ H Q := h
theorem x_prs {tk tv : TE} {r : List (TE × TE)} {σ : L2.St} {H : Hp} {R : List (V × V) → Hp → Prop} (h : tk σ H fun x H1 => tv σ H1 fun y H2 => tPairs r σ H2 fun ps H3 => R ((x, y) :: ps) H3) : tPairs ((tk, tv) :: r) σ H R := h
theorem x_prs0 {σ : L2.St} {H : Hp} {R : List (V × V) → Hp → Prop} (h : R [] H) : tPairs [] σ H R := h
theorem merge1 {z : Str} {v : V} : mergeK [] [((Sum.inr z : Key), v)] = [(Sum.inr z, v)] := rfl
theorem merge2 {z y : Str} {v u : V} (n : z ≠ y) : mergeK [] [((Sum.inr z : Key), v), (Sum.inr y, u)] = [(Sum.inr z, v), (Sum.inr y, u)] := by
  show putK [((Sum.inr z : Key), v)] (Sum.inr y) u = _
  unfold putK
  rw [if_neg (by simp [n])]
  rfl
theorem nm_on : NameS "on" := nameL_iff.mp (by decide +kernel)
theorem nm_off : NameS "off" := nameL_iff.mp (by decide +kernel)
theorem nm_h : NameS "h" := nameL_iff.mp (by decide +kernel)
theorem nm_t : NameS "t" := nameL_iff.mp (by decide +kernel)
/-! ### k93: the law -/
def spLaw (K : PySem.W.Frag) : Sp := fun vs H Q _ => ∃ (a : Addr) (ns : List Int), vs = [.ref a] ∧ SqL K H a (intsV ns) ∧ ns.length ≤ 63 ∧ ∀ H', Q (.bl true) H'
theorem same_woN {H H' : Hp} {p : Addr} (s : L2.Same H H') (h : H p = none) : L2.Same H (wo H' p) := fun b o e => by
  have n : b ≠ p := fun q => by rw [q, h] at e; cases e
  rw [wo_ne n]
  exact s b o e
theorem same_but {H H' H'' : Hp} {p : Addr} (s : L2.Same H H') (hp : H p = none) (b : But p H' H'') : L2.Same H H'' := fun x o e => b _ _ (s _ _ e) (ne_of_none e hp)
theorem x_slots {t : TS} {D : Ends} {σ σ' : L2.St} {H : Hp} (e : σ = σ') (q : t D σ' H) : t D σ H := by
  rw [e]
  exact q
theorem x_eqRefl {K : PySem.W.Frag} {H : Hp} {Q : VK} {x y : V} {d : PyData} (hx : Dp K H x d) (hy : Dp K H y d) (hs : SeqAt.shaped d = true) (q : Q (.bl true) H) : rEqD K x y H Q :=
  ⟨_, _, hx, hy, hs, hs, by rw [SeqAt.eqv_refl d (SeqAt.canLay_of_shaped hs)]; exact q⟩
theorem x_neRefl {K : PySem.W.Frag} {H : Hp} {Q : VK} {x y : V} {d : PyData} (hx : Dp K H x d) (hy : Dp K H y d) (hs : SeqAt.shaped d = true) (q : Q (.bl false) H) : rNeD K x y H Q :=
  ⟨_, _, hx, hy, hs, hs, by rw [SeqAt.eqv_refl d (SeqAt.canLay_of_shaped hs)]; exact q⟩
theorem frW_bd {z : Str} {x y : Int} (h : frW z = some (x, y)) : x.natAbs < 10 ^ 31 ∧ y.natAbs < 10 ^ 31 := by
  unfold frW at h
  split at h
  · next a b hs =>
    split at h
    · next x1 y1 h1 h2 =>
      split at h
      · cases h
        have := num_bd h1
        have := num_bd h2
        exact ⟨by omega, by omega⟩
      · cases h
    · cases h
  · cases h
section
variable {P : Program} {w : World} {K : PySem.W.Frag} {mg : Str → Option Value} {base : Heap}
theorem ok_l_is_integer {f : Addr} {fd : FuncData} (F : Fun K "_law_is_integer" "_law_is_integer" s_l_is_integer f fd) (Z_int : mg "int" = none) (Z_bool : mg "bool" = none) (Z_isinstance : mg "isinstance" = none) : FnOk P w K mg base CX0 1 f fd ["_law_thing"] (spIsInt K) := by
  refine F.ok sc_l_is_integer (fun vs H Q E h => ?_) (fun cdv A outer s H vs Q E hr h => ?_)
  · obtain ⟨_, _, rfl, _⟩ := h
    rfl
  · obtain ⟨x, k, rfl, hk, q⟩ := h
    refine ⟨_, (pss_one (ps_ret (pe_and (pe_callB call_isi (by rfl) Z_isinstance (by decide +kernel) (pa_cons (pv 0) (pa_cons (pe_bltn (v := .ty "int") (by rfl) Z_int (by decide +kernel) rfl) pa_nil))) (pe_one (pe_not (pe_callB call_isi (by rfl) Z_isinstance (by decide +kernel) (pa_cons (pv 0) (pa_cons (pe_bltn (v := .ty "bool") (by rfl) Z_bool (by decide +kernel) rfl) pa_nil)))))))), ?_⟩
    walk_at "go"
    refine x_isiInt hk ?_
    walk_at "go"
    cases k
    case int =>
      refine x_T ?_
      walk_at "go"
      refine x_isiBool hk ?_
      walk_at "go"
      exact q
    case bl =>
      refine x_T ?_
      walk_at "go"
      refine x_isiBool hk ?_
      walk_at "go"
      exact q
    all_goals
      refine x_F ?_
      exact q
set_option maxHeartbeats 40000000 in
theorem ok_law {f : Addr} {fd : FuncData} (F : Fun K "law" "law" s_law f fd) (Z_range : mg "range" = none) (Z_tuple : mg "tuple" = none) (Z_isinstance : mg "isinstance" = none) (C_pool : Cal P w K mg base 1 "_law_pool" ["_law_script", "_law_k"] (spPool93 K)) (C_draw : Cal P w K mg base 1 "_law_draw" ["_law_pool_here", "_law_many"] spDraw)
    (C_l_text : Cal P w K mg base 4 "_law_text" ["_law_pool_here"] (spStrP 9000)) (C_l_due : Cal P w K mg base 2 "_law_due" ["_law_text_here"] spDue) (C_l_told : Cal P w K mg base 4 "_law_told" ["_law_thing"] (spTold K)) (C_read_fraction : Cal P w K mg base 3 "read_fraction" ["text"] spReadR)
    (C_l_is_integer : Cal P w K mg base 1 "_law_is_integer" ["_law_thing"] (spIsInt K)) (C_fraction_text : Cal P w K mg base 1 "fraction_text" ["fraction"] spFrText) : FnOk P w K mg base CX0 8 f fd ["_law_script"] (spLaw K) := by
  refine F.ok sc_law (fun vs H Q E h => ?_) (fun cdv A outer s H vs Q E hr h => ?_)
  · obtain ⟨_, _, rfl, _⟩ := h
    rfl
  · obtain ⟨sa, ns, rfl, hS, hlen, k⟩ := h
    have hu := hu_of hr
    refine ⟨_, (pss_cons (ps_set (i := 1) sc_law.nd rfl (Or.inl rfl) (pe_cal C_pool (hr.mono (by decide)) (by rfl) (pa_cons (pv 0) (pa_cons pe_int pa_nil))))
      (pss_cons (ps_for PassesOwn.never rfl (pi_range1 rfl Z_range (pa_cons (pe_op op_add pe_int (pe_cal C_draw (hr.mono (by decide)) (by rfl) (pa_cons (pv 1) (pa_cons pe_int pa_nil)))) pa_nil)) (pg_name (i := 2) sc_law.nd rfl (Or.inl rfl))
      (pss_cons (ps_set (i := 3) sc_law.nd rfl (Or.inl rfl) (pe_cal C_l_text (hr.mono (by decide)) (by rfl) (pa_cons (pe_cal C_pool (hr.mono (by decide)) (by rfl) (pa_cons (pv 0) (pa_cons (pe_op op_add pe_int (pv 2)) pa_nil))) pa_nil)))
      (pss_cons (ps_set (i := 4) sc_law.nd rfl (Or.inl rfl) (pe_cal C_l_due (hr.mono (by decide)) (by rfl) (pa_cons (pv 3) pa_nil)))
      (pss_cons (ps_for PassesOwn.never rfl (pi_range1 rfl Z_range (pa_cons pe_int pa_nil)) (pg_name (i := 5) sc_law.nd rfl (Or.inl rfl))
      (pss_cons (ps_set (i := 6) sc_law.nd rfl (Or.inl rfl) (pe_cal C_l_told (hr.mono (by decide)) (by rfl) (pa_cons (pv 3) pa_nil)))
      (pss_one (ps_if (PW.pt (pw_or (PW.pt (pw_and (pt_cmpR op_isNA (pv 4) pe_non (nomark _)) (pw_and1 (pt_cmpR (op_neD hr.units) (pv 6) (pe_tup (pa_cons pe_str (pa_cons pe_int pa_nil))) (nomark _))))) (pw_or1 (PW.pt (pw_and (pt_cmpR op_notNA (pv 4) pe_non (nomark _)) (pw_and1 (pt_cmpR (op_neD hr.units) (pv 6) (pe_tup (pa_cons pe_str (pa_cons (pv 4) pa_nil))) (nomark _))))))))
      (pss_one (ps_ret pe_bl))
      pss_nil))))
      (pss_one (ps_if (pt_cmpR op_notNA (pv 4) pe_non (nomark _))
      (pss_cons (ps_set (i := 7) sc_law.nd rfl (Or.inl rfl) (pe_cal C_read_fraction (hr.mono (by decide)) (by rfl) (pa_cons (pv 3) pa_nil)))
      (pss_cons (ps_if (PW.pt (pw_or (pt_not (pt_val (pe_callB call_isi (by rfl) Z_isinstance (by decide +kernel) (pa_cons (pv 7) (pa_cons (pe_bltn (v := .ty "tuple") (by rfl) Z_tuple (by decide +kernel) rfl) pa_nil))))) (pw_or (pt_not (pt_val (pe_cal C_l_is_integer (hr.mono (by decide)) (by rfl) (pa_cons (pe_ix ix_tup (pv 7) pe_int (fun _ _ => rfl)) pa_nil)))) (pw_or1 (pt_not (pt_val (pe_cal C_l_is_integer (hr.mono (by decide)) (by rfl) (pa_cons (pe_ix ix_tup (pv 7) pe_int (fun _ _ => rfl)) pa_nil))))))))
      (pss_one (ps_ret pe_bl))
      pss_nil)
      (pss_one (ps_if (PW.pt (pw_or (pt_cmpR op_ne (pe_cal C_fraction_text (hr.mono (by decide)) (by rfl) (pa_cons (pv 7) pa_nil)) (pv 3) (nomark _)) (pw_or1 (pt_cmpR op_ne (pe_cal C_fraction_text (hr.mono (by decide)) (by rfl) (pa_cons (pv 4) pa_nil)) (pv 3) (nomark _)))))
      (pss_one (ps_ret pe_bl))
      pss_nil))))
      pss_nil))))))
      (pss_cons (ps_set (i := 8) sc_law.nd rfl (Or.inl rfl) (pe_lst (pa_cons pe_non (pa_cons pe_int (pa_cons pe_bl (pa_cons (pe_tup (pa_cons pe_int (pa_cons pe_int pa_nil))) (pa_cons (pe_lst (pa_cons pe_str pa_nil)) (pa_cons (pe_disp (pps_cons pe_str pe_int pps_nil) (by rfl) (by rfl) (fun z => by cases z) (by decide)) (pa_cons (pe_tup (pa_cons pe_str pa_nil)) (pa_cons (pe_op op_powW pe_int pe_int) pa_nil))))))))))
      (pss_one (ps_ret (pe_cmpR (op_eqD hr.units) (pe_cal C_l_told (hr.mono (by decide)) (by rfl) (pa_cons (pe_ix ix_list (pv 8) (pe_cal C_draw (hr.mono (by decide)) (by rfl) (pa_cons (pv 1) (pa_cons pe_int pa_nil))) (fun _ _ => rfl)) pa_nil)) (pe_tup (pa_cons pe_str (pa_cons pe_int pa_nil))) (nomark _))))))), ?_⟩
    have sh1 : SeqAt.shaped (.tuple [.str (Str.ofString "text"), .int 1]) = true := by decide +kernel
    have sh0 : SeqAt.shaped (.tuple [.str (Str.ofString "text"), .int 0]) = true := by decide +kernel
    have sh2 : ∀ x y : Int, SeqAt.shaped (.tuple [.str (Str.ofString "is"), .tuple [.int x, .int y]]) = true := fun x y => by
      have e : PyData.strOk (Str.ofString "is") = true := by decide +kernel
      unfold SeqAt.shaped
      have e1 : PyData.canLay0 (.tuple [.str (Str.ofString "is"), .tuple [.int x, .int y]]) = true := by
        show (PyData.strOk (Str.ofString "is") && ((true && (true && true)) && true)) = true
        rw [e]
        rfl
      have e2 : PyData.depth (.tuple [.str (Str.ofString "is"), .tuple [.int x, .int y]]) ≤ 64 := by
        show max 0 (max (max 0 (max 0 0) + 1) 0) + 1 ≤ 64
        decide
      rw [e1, decide_eq_true e2]
      rfl
    walk_at "go"
    refine ⟨sa, ns, 0, rfl, hS, hlen, by decide, by decide, fun H1 p s1 hp0 hp1 => ?_⟩
    have W1 : L2.Same H (wo H1 p) := same_woN s1 hp0
    walk_at "go"
    refine ⟨p, 12, rfl, hp1, by decide, by decide, fun H2 m b2 p2 m0 m1 => ?_⟩
    walk_at "go"
    refine lpR (fun i σ H' => ∃ (v2 v3 v4 v5 v6 v7 v8 : Option V), σ = [some (.ref sa), some (.ref p), v2, v3, v4, v5, v6, v7, v8] ∧ But p H1 H' ∧ PoolAt H' p) ⟨by omega, by omega⟩ ⟨_, _, _, _, _, _, _, rfl, b2, p2⟩ ?_ ?_
    · rintro i σ H3 hi ⟨v2, v3, v4, v5, v6, v7, v8, rfl, b3, p3⟩
      have S3 : L2.Same H H3 := (W1.trans (but_wo b3)).trans wo_same
      walk_at "go"
      refine ⟨sa, ns, _, rfl, S3.seq hS, hlen, by omega, by omega, fun H4 o s4 ho0 ho4 => ?_⟩
      walk_at "go"
      refine ⟨o, rfl, ho4, fun H5 z b5 ho5 hz => ?_⟩
      have S35 : L2.Same H3 H5 := same_but s4 ho0 b5
      have p5 := p3.same S35
      walk_at "go"
      refine ⟨z, rfl, hz, ?_⟩
      cases hf : frW z with
      | none =>
        refine .inr ⟨rfl, fun H6 s6 => ?_⟩
        try dsimp only
        refine x_slots (σ' := [some (.ref sa), some (.ref p), some (.int (i : Int)), some (.str z), some .non, v5, v6, v7, v8]) rfl ?_
        walk_at "go"
        refine lpR (fun j σ H' => ∃ (v5 v6 : Option V), σ = [some (.ref sa), some (.ref p), some (.int (i : Int)), some (.str z), some .non, v5, v6, v7, v8] ∧ L2.Same H3 H') ⟨by omega, by omega⟩ ⟨_, _, rfl, S35.trans s6⟩ ?_ ?_
        · rintro j σ H7 hj ⟨v5, v6, rfl, s7⟩
          walk_at "go"
          refine ⟨.str z, rfl, .inr (.inl ⟨z, rfl, hz, hf, fun H8 t s8 ht => ?_⟩)⟩
          walk_at "go"
          refine x_yes rfl ?_
          walk_at "go"
          refine ⟨sz_le (by simp), fun t2 nt2 => ?_⟩
          have s9 := same_new (o := .tup [V.str "text", .int 1]) nt2
          refine x_neRefl (.tup (SqT.of (s9 _ _ ht)) (.cons (.str _) (.cons (.int _) .nil))) (.tup (SqT.of upd_same) (.cons (.str _) (.cons (.int _) .nil))) sh1 ?_
          walk_at "go"
          refine x_nyes rfl ?_
          walk_at "go"
          exact ⟨_, _, rfl, (s7.trans s8).trans s9⟩
        · rintro σ H7 ⟨v5, v6, rfl, s7⟩
          walk_at "go"
          refine x_nyes rfl ?_
          walk_at "go"
          exact ⟨_, _, _, _, _, _, _, rfl, b3.trans (But.of_same s7), p3.same s7⟩
      | some xy =>
        obtain ⟨x, y⟩ := xy
        obtain ⟨bx, by_⟩ := frW_bd hf
        refine .inl ⟨x, y, rfl, fun H6 d s6 hd0 hd6 => ?_⟩
        try dsimp only
        refine x_slots (σ' := [some (.ref sa), some (.ref p), some (.int (i : Int)), some (.str z), some (.ref d), v5, v6, v7, v8]) rfl ?_
        walk_at "go"
        refine lpR (fun j σ H' => ∃ (v5 v6 : Option V), σ = [some (.ref sa), some (.ref p), some (.int (i : Int)), some (.str z), some (.ref d), v5, v6, v7, v8] ∧ L2.Same H6 H') ⟨by omega, by omega⟩ ⟨_, _, rfl, L2.Same.refl _⟩ ?_ ?_
        · rintro j σ H7 hj ⟨v5, v6, rfl, s7⟩
          walk_at "go"
          refine ⟨.str z, rfl, .inl ⟨z, x, y, rfl, hz, hf, fun H8 t u s8 hu8 ht => ?_⟩⟩
          have hd8 := s8 _ _ (s7 _ _ hd6)
          walk_at "go"
          refine x_no (by intro h; cases h) ?_
          walk_at "go"
          refine x_nno (by intro h; cases h) ?_
          walk_at "go"
          refine ⟨sz_le (by simp), fun t2 nt2 => ?_⟩
          have s9 := same_new (o := .tup [V.str "is", .ref d]) nt2
          refine x_neRefl (.tup (SqT.of (s9 _ _ ht)) (.cons (.str _) (.cons (.tup (SqT.of (s9 _ _ hu8)) (.cons (.int x) (.cons (.int y) .nil))) .nil))) (.tup (SqT.of upd_same) (.cons (.str _) (.cons (.tup (SqT.of (s9 _ _ hd8)) (.cons (.int x) (.cons (.int y) .nil))) .nil))) (sh2 x y) ?_
          walk_at "go"
          exact ⟨_, _, rfl, (s7.trans s8).trans s9⟩
        · rintro σ H7 ⟨v5, v6, rfl, s7⟩
          have hd7 := s7 _ _ hd6
          walk_at "go"
          refine x_nno (by intro h; cases h) ?_
          walk_at "go"
          refine ⟨z, x, y, rfl, hz, hf, fun H8 e s8 he0 he8 => ?_⟩
          walk_at "go"
          refine x_isiTup (.tup (SqT.of he8)) ?_
          walk_at "go"
          refine x_nT ?_
          walk_at "go"
          refine x_ixt 0 (SqT.of he8) rfl rfl ?_
          walk_at "go"
          refine ⟨_, .int, rfl, .int _, ?_⟩
          walk_at "go"
          refine x_nT ?_
          walk_at "go"
          refine x_ixt 1 (SqT.of he8) rfl rfl ?_
          walk_at "go"
          refine ⟨_, .int, rfl, .int _, ?_⟩
          walk_at "go"
          refine x_nT ?_
          walk_at "go"
          refine ⟨e, x, y, rfl, he8, bx, by_, ?_⟩
          rw [frW_text hf]
          walk_at "go"
          refine x_nyes rfl ?_
          walk_at "go"
          refine ⟨d, x, y, rfl, s8 _ _ hd7, bx, by_, ?_⟩
          rw [frW_text hf]
          walk_at "go"
          refine x_nyes rfl ?_
          walk_at "go"
          have S38 := ((S35.trans s6).trans s7).trans s8
          exact ⟨_, _, _, _, _, _, _, rfl, b3.trans (But.of_same S38), p3.same S38⟩
    · rintro σ H3 ⟨v2, v3, v4, v5, v6, v7, v8, rfl, b3, p3⟩
      walk_at "go"
      refine ⟨sz_le (by simp), fun a1 na1 => ?_⟩
      have q1 := same_new (o := .tup [V.int 1, V.int 2]) na1
      have h1 : (upd H3 a1 (.tup [V.int 1, V.int 2])) a1 = _ := upd_same
      generalize upd H3 a1 (.tup [V.int 1, V.int 2]) = H4 at q1 h1
      walk_at "go"
      refine ⟨sz_le (by simp), fun a2 na2 => ?_⟩
      have q2 := same_new (o := .lst [V.str "1/2"]) na2
      have h2 : (upd H4 a2 (.lst [V.str "1/2"])) a2 = _ := upd_same
      generalize upd H4 a2 (.lst [V.str "1/2"]) = H5 at q2 h2
      walk_at "go"
      refine x_disp fun a3 na3 => x_prs ?_
      walk_at "go"
      refine x_prs0 ⟨upd_same, [((Sum.inr (Str.ofString "1/2") : Key), .int 1)], rfl, by decide, ?_⟩
      rw [merge1, upd_upd]
      have q3 := same_new (o := .dK [((Sum.inr (Str.ofString "1/2") : Key), V.int 1)]) na3
      have h3 : (upd H5 a3 (.dK [((Sum.inr (Str.ofString "1/2") : Key), V.int 1)])) a3 = _ := upd_same
      generalize upd H5 a3 (.dK [((Sum.inr (Str.ofString "1/2") : Key), V.int 1)]) = H6 at q3 h3
      walk_at "go"
      refine ⟨sz_le (by simp), fun a4 na4 => ?_⟩
      have q4 := same_new (o := .tup [V.str "1/2"]) na4
      have h4 : (upd H6 a4 (.tup [V.str "1/2"])) a4 = _ := upd_same
      generalize upd H6 a4 (.tup [V.str "1/2"]) = H7 at q4 h4
      walk_at "go"
      refine ⟨sz_le (by simp), fun L nL => ?_⟩
      have q5 := same_new (o := .lst [V.non, V.int 5, V.bl true, V.ref a1, V.ref a2, V.ref a3, V.ref a4, V.int (10 ^ Int.toNat 29)]) nL
      have h5 : (upd H7 L (.lst [V.non, V.int 5, V.bl true, V.ref a1, V.ref a2, V.ref a3, V.ref a4, V.int (10 ^ Int.toNat 29)])) L = _ := upd_same
      have S7 := ((q1.trans q2).trans q3).trans q4
      have nLp : L ≠ p := (p3.same S7).ne nL
      have np : ∀ {a : Addr} {Hx : Hp}, PoolAt Hx p → Hx a = none → a ≠ p := fun pp n => pp.ne n
      have n1p := np p3 na1
      have n2p := np (p3.same q1) na2
      have n3p := np (p3.same (q1.trans q2)) na3
      have n4p := np (p3.same ((q1.trans q2).trans q3)) na4
      generalize upd H7 L (.lst [V.non, V.int 5, V.bl true, V.ref a1, V.ref a2, V.ref a3, V.ref a4, V.int (10 ^ Int.toNat 29)]) = H8 at q5 h5
      walk_at "go"
      refine ⟨p, 8, rfl, (p3.same S7).same q5, by decide, by decide, fun H9 j b9 p9 j0 j1 => ?_⟩
      obtain ⟨m, rfl⟩ : ∃ m : Nat, j = m := ⟨j.toNat, by omega⟩
      have hm : m < 8 := by omega
      have all : ∀ v ∈ ([V.non, V.int 5, V.bl true, V.ref a1, V.ref a2, V.ref a3, V.ref a4, V.int (10 ^ Int.toNat 29)] : List V), ∃ k, Kd K H9 v k ∧ k ≠ .str := by
        intro v hv
        simp only [List.mem_cons, List.not_mem_nil, or_false] at hv
        rcases hv with rfl | rfl | rfl | rfl | rfl | rfl | rfl | rfl
        · exact ⟨_, .non, by decide⟩
        · exact ⟨_, .int _, by decide⟩
        · exact ⟨_, .bl _, by decide⟩
        · exact ⟨_, .tup (SqT.of (b9 _ _ (q5 _ _ (q4 _ _ (q3 _ _ (q2 _ _ h1)))) n1p)), by decide⟩
        · exact ⟨_, .lst (SqL.of (b9 _ _ (q5 _ _ (q4 _ _ (q3 _ _ h2))) n2p)), by decide⟩
        · exact ⟨_, .dict (.inl (b9 _ _ (q5 _ _ (q4 _ _ h3)) n3p)), by decide⟩
        · exact ⟨_, .tup (SqT.of (b9 _ _ (q5 _ _ h4) n4p)), by decide⟩
        · exact ⟨_, .int _, by decide⟩
      obtain ⟨v, hv⟩ : ∃ v, ([V.non, V.int 5, V.bl true, V.ref a1, V.ref a2, V.ref a3, V.ref a4, V.int (10 ^ Int.toNat 29)] : List V)[m]? = some v := ⟨_, List.getElem?_eq_getElem (by simpa using hm)⟩
      obtain ⟨kv, hk1, hk2⟩ := all v (List.mem_of_getElem? hv)
      refine x_ixl m (SqL.of (b9 _ _ h5 nLp)) rfl hv ?_
      walk_at "go"
      refine ⟨v, rfl, .inr (.inr ⟨kv, hk1, hk2, fun HA t sA ht => ?_⟩)⟩
      walk_at "go"
      refine ⟨sz_le (by simp), fun t2 nt2 => ?_⟩
      have sB := same_new (o := .tup [V.str "text", .int 0]) nt2
      refine x_eqRefl (.tup (SqT.of (sB _ _ ht)) (.cons (.str _) (.cons (.int _) .nil))) (.tup (SqT.of upd_same) (.cons (.str _) (.cons (.int _) .nil))) sh0 ?_
      exact k _
end
end Law
namespace Law
open PySem PySem.Spec PyProof.Rows L2 Ox
theorem facts {P : Program} {w : World} {K : PySem.W.Frag} {h : Heap} {mg : Str → Option Value} {f : Addr} (X : K.In h) (G : h.Ns mainGlobals mg) (hfa : mg ("law" : Str) = some (.ref f)) (hPf : ((P.main.file : Str) == "/claim/cut.py") = true) (hPt : (P.main.scope.names.lookup ("super" : Str)).isSome = false) (c2 : Oh.Told2 "/claim/cut.py" faA dsA ssA K) :
    ∃ fd : FuncData, (∀ (s : Shared) (v : Value), BindsTo s fd ⟨[v], []⟩ [("_law_script", v)]) ∧ ∀ base : Heap, K.In base → base.Ns mainGlobals mg → FnOk P w K mg base CX0 8 f fd ["_law_script"] ((spLaw K)) := by
  have c := c2.told
  obtain ⟨_, F_law⟩ := c.def_ 0 (d := d_law) rfl
  have e := hfa.symm.trans (He.glo_ok X G (c.fact 0 (f := Oh.fo (.glo "law")) rfl))
  cases e
  have b := Oh.bindsA (ps := ["_law_script"]) F_law fun _ _ _ _ _ _ us hl => match us, hl with | [_], _ => rfl
  refine ⟨_, fun s v => b s [v] rfl, fun base _ _ => ?_⟩
  have x1 : mg "range" = none := He.free_ok X G (c.fact 1 (f := Oh.fo (.free "range")) rfl)
  have x2 : mg "tuple" = none := He.free_ok X G (c.fact 2 (f := Oh.fo (.free "tuple")) rfl)
  have x3 : mg "isinstance" = none := He.free_ok X G (c.fact 3 (f := Oh.fo (.free "isinstance")) rfl)
  obtain ⟨_, F_pool⟩ := c.def_ 1 (d := d_pool) rfl
  have x4 : mg "len" = none := He.free_ok X G (c.fact 4 (f := Oh.fo (.free "len")) rfl)
  have x5 : mg "int" = none := He.free_ok X G (c.fact 5 (f := Oh.fo (.free "int")) rfl)
  have x6 : Cal P w K mg base 1 "_law_pool" ["_law_script", "_law_k"] (spPool93 K) := ⟨_, _, ok_pool F_pool x4 x5, He.glo_ok X G (c.fact 6 (f := Oh.fo (.glo "_law_pool")) rfl), F_pool.kp, bd_pool F_pool⟩
  obtain ⟨_, F_draw⟩ := c.def_ 2 (d := d_draw) rfl
  have x7 : Cal P w K mg base 1 "_law_draw" ["_law_pool_here", "_law_many"] spDraw := ⟨_, _, ok_draw F_draw x5, He.glo_ok X G (c.fact 7 (f := Oh.fo (.glo "_law_draw")) rfl), F_draw.kp, bd_draw F_draw⟩
  obtain ⟨_, F_l_text⟩ := c.def_ 3 (d := d_l_text) rfl
  have x8 : mg "str" = none := He.free_ok X G (c.fact 8 (f := Oh.fo (.free "str")) rfl)
  obtain ⟨_, F_l_part⟩ := c.def_ 4 (d := d_l_part) rfl
  obtain ⟨_, F_l_digits⟩ := c.def_ 5 (d := d_l_digits) rfl
  have x9 : Cal P w K mg base 2 "_law_digits" ["_law_pool_here"] (spStrP 40) := ⟨_, _, ok_l_digits F_l_digits x1 x7, He.glo_ok X G (c.fact 9 (f := Oh.fo (.glo "_law_digits")) rfl), F_l_digits.kp, bd_l_digits F_l_digits⟩
  have x10 : Cal P w K mg base 3 "_law_part" ["_law_pool_here"] (spStrP 60) := ⟨_, _, ok_l_part F_l_part x8 x7 x9, He.glo_ok X G (c.fact 10 (f := Oh.fo (.glo "_law_part")) rfl), F_l_part.kp, bd_l_part F_l_part⟩
  obtain ⟨_, F_l_amount⟩ := c.def_ 6 (d := d_l_amount) rfl
  obtain ⟨_, F_l_great⟩ := c.def_ 7 (d := d_l_great) rfl
  have x11 : Cal P w K mg base 2 "_law_great" ["_law_pool_here"] spGreat := ⟨_, _, ok_l_great F_l_great x1 x5 x7, He.glo_ok X G (c.fact 11 (f := Oh.fo (.glo "_law_great")) rfl), F_l_great.kp, bd_l_great F_l_great⟩
  obtain ⟨_, F_l_fraction⟩ := c.def_ 8 (d := d_l_fraction) rfl
  have x12 : mg "abs" = none := He.free_ok X G (c.fact 12 (f := Oh.fo (.free "abs")) rfl)
  obtain ⟨_, F_l_divisor⟩ := c.def_ 9 (d := d_l_divisor) rfl
  have x13 : Cal P w K mg base 1 "_law_divisor" ["_law_one", "_law_other"] spDivL := ⟨_, _, ok_l_divisor F_l_divisor x1 x5, He.glo_ok X G (c.fact 13 (f := Oh.fo (.glo "_law_divisor")) rfl), F_l_divisor.kp, bd_l_divisor F_l_divisor⟩
  have x14 : Cal P w K mg base 2 "_law_fraction" ["_law_top", "_law_bottom"] spLFrac := ⟨_, _, ok_l_fraction F_l_fraction x12 x13, He.glo_ok X G (c.fact 14 (f := Oh.fo (.glo "_law_fraction")) rfl), F_l_fraction.kp, bd_l_fraction F_l_fraction⟩
  have x15 : Cal P w K mg base 3 "_law_amount" ["_law_pool_here"] spAmount := ⟨_, _, ok_l_amount F_l_amount x5 x7 x11 x14, He.glo_ok X G (c.fact 15 (f := Oh.fo (.glo "_law_amount")) rfl), F_l_amount.kp, bd_l_amount F_l_amount⟩
  obtain ⟨_, F_l_fraction_text⟩ := c.def_ 10 (d := d_l_fraction_text) rfl
  have x16 : Cal P w K mg base 1 "_law_fraction_text" ["_law_fraction_here"] spLFText := ⟨_, _, ok_l_fraction_text F_l_fraction_text x8, He.glo_ok X G (c.fact 16 (f := Oh.fo (.glo "_law_fraction_text")) rfl), F_l_fraction_text.kp, bd_l_fraction_text F_l_fraction_text⟩
  have x17 : Cal P w K mg base 4 "_law_text" ["_law_pool_here"] (spStrP 9000) := ⟨_, _, ok_l_text F_l_text x1 x4 x8 x7 x10 x15 x16, He.glo_ok X G (c.fact 17 (f := Oh.fo (.glo "_law_text")) rfl), F_l_text.kp, bd_l_text F_l_text⟩
  obtain ⟨_, F_l_due⟩ := c.def_ 11 (d := d_l_due) rfl
  obtain ⟨_, F_l_number⟩ := c.def_ 12 (d := d_l_number) rfl
  have x18 : mg "all" = none := He.free_ok X G (c.fact 18 (f := Oh.fo (.free "all")) rfl)
  have x19 : Cal P w K mg base 1 "_law_number" ["_law_word", "_law_most"] spNumL := ⟨_, _, ok_l_number F_l_number x4 x5 x8 x18, He.glo_ok X G (c.fact 19 (f := Oh.fo (.glo "_law_number")) rfl), F_l_number.kp, bd_l_number F_l_number⟩
  have x20 : Cal P w K mg base 2 "_law_due" ["_law_text_here"] spDue := ⟨_, _, ok_l_due F_l_due x4 x12 x19 x13, He.glo_ok X G (c.fact 20 (f := Oh.fo (.glo "_law_due")) rfl), F_l_due.kp, bd_l_due F_l_due⟩
  obtain ⟨_, F_l_told⟩ := c.def_ 13 (d := d_l_told) rfl
  obtain ⟨_, F_read_fraction⟩ := c.def_ 14 (d := d_read_fraction) rfl
  obtain ⟨_, F_read_number⟩ := c.def_ 15 (d := d_read_number) rfl
  have x21 : Cal P w K mg base 1 "read_number" ["word", "most"] spNum := ⟨_, _, ok_read_number F_read_number x4 x5, He.glo_ok X G (c.fact 21 (f := Oh.fo (.glo "read_number")) rfl), F_read_number.kp, bd_read_number F_read_number⟩
  obtain ⟨_, F_is_fraction⟩ := c.def_ 16 (d := d_is_fraction) rfl
  obtain ⟨_, F_common_divisor⟩ := c.def_ 17 (d := d_common_divisor) rfl
  have x22 : Cal P w K mg base 1 "common_divisor" ["one", "other"] spGcd := ⟨_, _, ok_common_divisor F_common_divisor , He.glo_ok X G (c.fact 22 (f := Oh.fo (.glo "common_divisor")) rfl), F_common_divisor.kp, bd_common_divisor F_common_divisor⟩
  obtain ⟨_, F_is_pair⟩ := c.def_ 18 (d := d_is_pair) rfl
  have x23 : Cal P w K mg base 1 "is_pair" ["thing"] (spIsPair K) := ⟨_, _, ok_is_pair F_is_pair x2 x4 x3, He.glo_ok X G (c.fact 23 (f := Oh.fo (.glo "is_pair")) rfl), F_is_pair.kp, bd_is_pair F_is_pair⟩
  obtain ⟨_, F_is_integer⟩ := c.def_ 19 (d := d_is_integer) rfl
  have x24 : mg "bool" = none := He.free_ok X G (c.fact 24 (f := Oh.fo (.free "bool")) rfl)
  have x25 : Cal P w K mg base 1 "is_integer" ["thing"] (spIsInt K) := ⟨_, _, ok_is_integer F_is_integer x5 x24 x3, He.glo_ok X G (c.fact 25 (f := Oh.fo (.glo "is_integer")) rfl), F_is_integer.kp, bd_is_integer F_is_integer⟩
  have x26 : Cal P w K mg base 2 "is_fraction" ["thing"] (spIsFr K) := ⟨_, _, ok_is_fraction F_is_fraction x12 x22 x23 x25, He.glo_ok X G (c.fact 26 (f := Oh.fo (.glo "is_fraction")) rfl), F_is_fraction.kp, bd_is_fraction F_is_fraction⟩
  have x27 : ExcF P K mg "BadText" "line" (He.ga K "BadText") := Oh.supB_ok (d := u_BadText) (c.fact 29 (f := Oh.supB "BadText" "line") rfl) (He.glo_ok X G (c.fact 27 (f := Oh.fo (.glo "BadText")) rfl)) (He.free_ok X G (c.fact 28 (f := Oh.fo (.free "super")) rfl)) hPt hPf (.inr (.inr (.inr (.inr rfl)))) rfl rfl ⟨_, _, _, _, _, _, _, _, _, _, _, _, _, rfl, rfl, rfl, rfl⟩ (c2.sup 0 (d := u_BadText) rfl).1 (c2.sup 0 (d := u_BadText) rfl).2
  have x28 : CalX P w K mg base 3 "read_fraction" ["text"] (spReadX K (He.ga K "BadText")) := ⟨_, _, ok_read_fractionX F_read_fraction x8 x4 x3 x21 x26 x27, He.glo_ok X G (c.fact 30 (f := Oh.fo (.glo "read_fraction")) rfl), F_read_fraction.kp, bd_read_fraction F_read_fraction⟩
  have x29 : mg "BadText" = some (.ref (He.ga K "BadText")) := He.glo_ok X G (c.fact 27 (f := Oh.fo (.glo "BadText")) rfl)
  have x30 : mg "OwnError" = some (.ref (He.ga K "OwnError")) := He.glo_ok X G (c.fact 31 (f := Oh.fo (.glo "OwnError")) rfl)
  have x31 : PySem.W.exmOne K (.ref (He.ga K "BadText")) (.ref (He.ga K "OwnError")) = some true := exmF_ok (c.fact 32 (f := exmF "BadText" "OwnError" true) rfl)
  have x32 : PySem.W.kitOne K (.ref (He.ga K "BadText")) (.ref (He.ga K "BadText")) = some true := kitF_ok (c.fact 33 (f := kitF "BadText" "BadText" true) rfl)
  have x33 : ExcG K (He.ga K "BadText") "line" := Oh.supB_g (c.fact 29 (f := Oh.supB "BadText" "line") rfl)
  have x34 : ExcC K (He.ga K "BadText") := excCF_ok (c.fact 34 (f := excCF "BadText") rfl)
  have x35 : Cal P w K mg base 4 "_law_told" ["_law_thing"] (spTold K) := ⟨_, _, ok_l_told F_l_told x3 x28 x29 x30 x31 x32 x33 x34, He.glo_ok X G (c.fact 35 (f := Oh.fo (.glo "_law_told")) rfl), F_l_told.kp, bd_l_told F_l_told⟩
  have x36 : Cal P w K mg base 3 "read_fraction" ["text"] spReadR := ⟨_, _, ok_read_fraction F_read_fraction x8 x4 x3 x21 x26, He.glo_ok X G (c.fact 30 (f := Oh.fo (.glo "read_fraction")) rfl), F_read_fraction.kp, bd_read_fraction F_read_fraction⟩
  obtain ⟨_, F_l_is_integer⟩ := c.def_ 20 (d := d_l_is_integer) rfl
  have x37 : Cal P w K mg base 1 "_law_is_integer" ["_law_thing"] (spIsInt K) := ⟨_, _, ok_l_is_integer F_l_is_integer x5 x24 x3, He.glo_ok X G (c.fact 36 (f := Oh.fo (.glo "_law_is_integer")) rfl), F_l_is_integer.kp, bd_l_is_integer F_l_is_integer⟩
  obtain ⟨_, F_fraction_text⟩ := c.def_ 21 (d := d_fraction_text) rfl
  have x38 : Cal P w K mg base 1 "fraction_text" ["fraction"] spFrText := ⟨_, _, ok_fraction_text F_fraction_text , He.glo_ok X G (c.fact 37 (f := Oh.fo (.glo "fraction_text")) rfl), F_fraction_text.kp, bd_fraction_text F_fraction_text⟩
  exact ok_law F_law x1 x2 x3 x6 x7 x17 x20 x35 x36 x37 x38
end Law
open PySem PySem.W PySem.Calls PyProof.Rows
theorem PySem.Challenge.cw_ownslips_k93_fraction_texts_holds : PySem.Challenge.rw_ownslips_k93_fraction_texts.Holds := by
  w_on; o_law
  refine HandSHeadRun.head_any (r := OpenLaw.row PySem.Challenge.rw_ownslips_k93_fraction_texts) (q := view (PySem.W.OpenLaw.row PySem.Challenge.rw_ownslips_k93_fraction_texts).prog [28]) (H := Law.hk) (ob := Law.ob) (M := 6000) (loose := Law.loA) (d := HandSHeadRun.topDef (PySem.W.OpenLaw.row PySem.Challenge.rw_ownslips_k93_fraction_texts).prog 28) (kwd := []) Law.ob_eq
    (by kernel_rfl) (fun s => by kernel_rfl) Law.run (by kernel_rfl) (by kernel_rfl) (by kernel_rfl) (by rfl) (by first | assumption | decide +kernel) (by decide +kernel) ⟨rfl, rfl, rfl, rfl, rfl, by decide +kernel⟩ ?hw ?hc
  case hw => w_witness2
  case hc =>
    refine L2.walk_ofE (l := PySem.Challenge.rw_ownslips_k93_fraction_texts) (n := 63) (k := 8) (x := "_law_script") (CX := L2.CX0) rfl (by decide) (by kernel_rfl) ⟨rfl, by decide, by decide⟩ ?F (fun _ _ _ _ z => z)
    intro w mg fa h Y G hmg0
    obtain ⟨K, KX, c⟩ := Y
    have hmg : mg ("law" : PySem.Str) = some (.ref fa) := by
      have e : (HandSHeadRun.topDef (PySem.W.OpenLaw.row PySem.Challenge.rw_ownslips_k93_fraction_texts).prog 28).name = ("law" : PySem.Str) := by kernel_rfl
      rw [← e]
      exact hmg0
    obtain ⟨fd, hb, hF⟩ := Law.facts (P := (PySem.Challenge.rw_ownslips_k93_fraction_texts).prog) (w := w) KX G hmg (by kernel_rfl) (by kernel_rfl) c
    exact ⟨K, fd, Law.spLaw K, KX, hb, fun H a ns hl _ hS => ⟨a, ns, rfl, hS, hl, fun _ => rfl⟩, hF⟩
