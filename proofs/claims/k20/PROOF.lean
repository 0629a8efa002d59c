import PyProof.Rows.All
import Wide.All
import OpenK.AllK
import Wide.FinOn
import HandS.ForMost
import HandS.Defaults
import HandS.Head0
import HandS.Head1
import HandS.Head2
import HandS.HeadEnd
import HandS.HeadHook1
import HandS.HeadHook2
import HandS.Property
import PyProof.Rows.RuleB_pow
import HandS.Wide
import HandS.Walk
import HandS.IsInst
import HandS.DictComp
import HandS.Style
import HandS.Flow
import HandS.TupAny
import HandS.ListItems
import HandS.Conv
import HandS.OwnEq
import KE.GoesMore
import KE.GoesEnum
import HandS.Iter
import HandS.TryOnly
import PySem.Challenge.RW_ownslips_k20_rounds_that_go_nowhere
set_option Elab.async false
set_option linter.all false
set_option maxRecDepth 100000
set_option maxHeartbeats 4000000
/-! Own hook: facts are any Bool of the written part, defs stand at any address that the written part tells. -/
namespace Oh
open PySem PySem.Spec PyProof.Rows L2
abbrev Frag := PySem.W.Frag
/-- a def: where it stands and its text -/
structure Dd where
  spot : Frag → Addr
  name : Str
  qual : Str
  st : Stmt
def Dd.fnd (d : Dd) (K : Frag) : He.FnW := (K.lookup (d.spot K)).bind fun o => match o.data with
  | .func fd => some (fd.name, fd.qualname, fd.params, fd.body, fd.scope, fd.globals, fd.closure, fd.builtins)
  | _ => none
def Dd.due (d : Dd) : He.FnW := some (d.name, d.qual, defArgs d.st, .stmts (defBody d.st), defScope d.st, mainGlobals, [], builtinsNs)
def isNon : Value → Bool
  | .none => true
  | _ => false
def Dd.good (d : Dd) (K : Frag) : Bool := match K.lookup (d.spot K) with
  | some o => (match o.data with
    | .func fd => PySem.W.keepIn K (.ref (d.spot K)) && (PySem.W.codeIn K fd.code d.qual && isNon fd.defaults)
    | _ => false)
  | none => false
theorem Dd.fun_ {d : Dd} {K : Frag} (e : d.fnd K = d.due) (g : d.good K = true) : ∃ fd, Fun K d.name d.qual d.st (d.spot K) fd := by
  unfold Dd.fnd at e
  unfold Dd.good at g
  cases q : K.lookup (d.spot K) with
  | none => rw [q] at g; cases g
  | some o =>
    obtain ⟨oc, od, dt, osl⟩ := o
    rw [q] at e g
    cases dt with
    | func fd =>
      obtain ⟨n1, n2, n3, n4, n5, n6, n7, n8, n9, n10, n11, n12, n13, n14, n15⟩ := fd
      have e2 : (some (n1, n2, n3, n4, n5, n6, n7, n15) : He.FnW) = some (d.name, d.qual, defArgs d.st, .stmts (defBody d.st), defScope d.st, mainGlobals, [], builtinsNs) := e
      have g2 : (PySem.W.keepIn K (.ref (d.spot K)) && (PySem.W.codeIn K n13 d.qual && isNon n8)) = true := g
      obtain ⟨g3, g4⟩ := Bool.and_eq_true_iff.mp g2
      obtain ⟨g5, g6⟩ := Bool.and_eq_true_iff.mp g4
      have e8 : n8 = .none := by
        cases n8 with
        | none => rfl
        | _ => cases g6
      simp only [Option.some.injEq, Prod.mk.injEq] at e2
      obtain ⟨h1, h2, h3, h4, h5, h6, h7, h8⟩ := e2
      subst h1 h2 h3 h4 h5 h6 h7 h8 e8
      exact ⟨_, ⟨oc, od, n9, n10, n11, n12, n13, n14, osl, rfl, q, g5⟩, g3⟩
    | _ => cases g
abbrev Ob : Type := Bool × List He.FnW
def see (fa : List (Frag → Bool)) (ds : List Dd) (K : Frag) : Ob := ((fa.all fun f => f K) && ds.all fun d => d.good K, ds.map fun d => d.fnd K)
def want (ds : List Dd) : Ob := (true, ds.map Dd.due)
def Told (fa : List (Frag → Bool)) (ds : List Dd) (K : Frag) : Prop := see fa ds K = want ds
def seeG (n : Nat) (fa : List (Frag → Bool)) (ds : List Dd) (g : Addr → Option Obj) : Ob := see fa ds (He.frG g (He.asD g n))
def hook (n : Nat) (fa : List (Frag → Bool)) (ds : List Dd) : PySem.W.Hook where
  α := Ob
  obs := fun s => seeG n fa ds s.heap.get?
  val := fun _ => want ds
  says := fun _ h => ∃ K : Frag, K.In h ∧ Told fa ds K
  of := fun _ _ e => ⟨_, He.frG_in, e⟩
  keeps := fun _ _ _ ⟨K, hK, c⟩ k => ⟨K, PySem.W.Frag.In.keeps hK k, c⟩
def obT (n : Nat) (fa : List (Frag → Bool)) (ds : List Dd) (s : PySem.W.SharedT) : Ob := seeG n fa ds (HandSHeadRun.getT s)
theorem obT_eq {n : Nat} {fa : List (Frag → Bool)} {ds : List Dd} (s : PySem.W.SharedT) : obT n fa ds s = (hook n fa ds).obs s.abs := by
  have e : HandSHeadRun.getT s = s.abs.heap.get? := funext (HandSHeadRun.getT_eq s)
  show seeG n fa ds (HandSHeadRun.getT s) = seeG n fa ds s.abs.heap.get?
  rw [e]
section
variable {fa : List (Frag → Bool)} {ds : List Dd} {K : Frag}
theorem Told.fact (c : Told fa ds K) (i : Nat) {f : Frag → Bool} (h : fa[i]? = some f) : f K = true := by
  have c1 := congrArg (fun z : Ob => z.1) c
  have c2 := (Bool.and_eq_true_iff.mp (show ((fa.all fun f => f K) && ds.all fun d => d.good K) = true from c1)).1
  exact List.all_eq_true.mp c2 f (List.mem_of_getElem? h)
theorem Told.def_ (c : Told fa ds K) (i : Nat) {d : Dd} (h : ds[i]? = some d) : ∃ fd, Fun K d.name d.qual d.st (d.spot K) fd := by
  have c1 := congrArg (fun z : Ob => z.1) c
  have c2 := (Bool.and_eq_true_iff.mp (show ((fa.all fun f => f K) && ds.all fun d => d.good K) = true from c1)).2
  have e : ds.map (fun d => d.fnd K) = ds.map Dd.due := congrArg (fun z : Ob => z.2) c
  have e2 : (ds.map fun d => d.fnd K)[i]? = (ds.map Dd.due)[i]? := by rw [e]
  rw [List.getElem?_map, List.getElem?_map, h] at e2
  exact Dd.fun_ (Option.some.inj e2) (List.all_eq_true.mp c2 d (List.mem_of_getElem? h))
end
/-! facts -/
def fo (f : He.Fa) : Frag → Bool := fun K => f.ok K
/-- the property's getter -/
def ga2 (K : Frag) (C f : Str) : Addr := match PySem.W.recIn K (He.ma K (He.ga K C) f) "property" with
  | some (.ref g :: _) => g
  | _ => 0
def isRefHd (o : Option (List Value)) (g : Addr) : Bool := match o with
  | some (.ref h :: _) => decide (h = g)
  | _ => false
/-- the class C has the name f as a property -/
def propB (C f : Str) : Frag → Bool := fun K => He.eqO (PySem.W.findIn K (.ref (He.ga K C)) f) (some (some (.ref (He.ma K (He.ga K C) f)))) &&
  (He.eqO (PySem.W.specialIn K (.ref (He.ma K (He.ga K C) f)) "__get__") (some (some (.builtin "property.__get__"))) &&
  (decide (PySem.W.takesIn K (.ref (He.ma K (He.ga K C) f)) = some true) && isRefHd (PySem.W.recIn K (He.ma K (He.ga K C) f) "property") (ga2 K C f)))
theorem propB_ok {C f : Str} {K : Frag} (h : propB C f K = true) : PropOf K (He.ga K C) f (He.ma K (He.ga K C) f) (ga2 K C f) := by
  obtain ⟨h1, h⟩ := Bool.and_eq_true_iff.mp h
  obtain ⟨h2, h⟩ := Bool.and_eq_true_iff.mp h
  obtain ⟨h3, h4⟩ := Bool.and_eq_true_iff.mp h
  refine ⟨He.eqO_ok h1, He.eqO_ok h2, of_decide_eq_true h3, ?_⟩
  unfold isRefHd at h4
  cases q : PySem.W.recIn K (He.ma K (He.ga K C) f) "property" with
  | none => rw [q] at h4; cases h4
  | some l =>
    rw [q] at h4
    cases l with
    | nil => cases h4
    | cons v r =>
      cases v with
      | ref g =>
        have e : g = ga2 K C f := of_decide_eq_true h4
        exact ⟨r, by rw [e]⟩
      | _ => cases h4
/-- how the law's def binds, at every heap -/
theorem bindsA {K : Frag} {x qual : Str} {st : Stmt} {f : Addr} {fd : FuncData} {ps : List Str} (F : Fun K x qual st f fd)
    (h : ∀ (kV doc pm : Value) (an : Option Addr) (cdv ct : Value) (us : List Value), us.length = ps.length → bindArgs (PySem.W.fnOf x qual (defArgs st) (defBody st) (defScope st) .none kV doc pm an cdv ct) ⟨us, []⟩ = pure (ps.zip us))
    (s : Shared) (us : List Value) (hl : us.length = ps.length) : BindsTo s fd ⟨us, []⟩ (ps.zip us) := by
  obtain ⟨_, _, kV, doc, pm, an, cdv, ct, _, e, _⟩ := F.ex
  subst e
  exact BindsTo.of_eq (h kV doc pm an cdv ct us hl)
end Oh

/-! Own layer: steps through a reading, one small lemma a construct, so that a tactic can take them by the goal's head. -/
namespace Ox
open PySem PySem.Spec PyProof.Rows L2
/-! ### further operators -/
section
variable {X : Cx}
theorem op_mulA : OpR X (binaryOp .Mult) (rI IntMulOk fun i j => .int (i * j)) := opI fun _ _ _ _ _ _ _ hc q => mul_int q hc
theorem op_fdivA : OpR X (binaryOp .FloorDiv) (rI CDivW fun i j => .int (i / j)) := op_fdivW
def CPowW (i j : Int) : Prop := 0 ≤ j ∧ (Builtin.Int.intBits i : Int) * j ≤ 2 ^ 27
theorem op_powW : OpR X (binaryOp .Pow) (rI CPowW fun i j => .int (i ^ j.toNat)) := opI fun _ _ _ _ _ _ _ hc q => pow_int hc.1 hc.2 q
end
theorem mulok_l {i j : Int} (h1 : -(2 ^ 63) ≤ i) (h2 : i < 2 ^ 63) : IntMulOk i j := CMul.ok (.inl ⟨by omega, by omega⟩)
theorem mulok_r {i j : Int} (h1 : -(2 ^ 63) ≤ j) (h2 : j < 2 ^ 63) : IntMulOk i j := CMul.ok (.inr ⟨by omega, by omega⟩)
theorem divok {i j : Int} (h : 0 < j) (h2 : j < 2 ^ 62) : CDivW i j := wide_div (b := 62) h (by omega) (by decide) (by decide)
/-! ### callees -/
section
variable (P : Program) (w : World) (K : PySem.W.Frag) (mg : Str → Option Value) (base : Heap)
/-- the module's name x is a def of level k that keeps the promise sp -/
structure Cal (k : Nat) (x : Str) (ps : List Str) (sp : Sp) : Prop where
  ex : ∃ f fd, FnOk P w K mg base CX0 k f fd ps sp ∧ mg x = some (.ref f) ∧ PySem.W.keepIn K (.ref f) = true ∧ Binds K fd ps []
/-- the module's name x is the class at C, made by an __init__ of level k -/
structure Mkc (C : Addr) (k : Nat) (x : Str) (ps : List Str) (sp : Sp) : Prop where
  ex : ∃ f fd, Mk K C f ∧ FnOk P w K mg base CX0 k f fd ps sp ∧ mg x = some (.ref C) ∧ Binds K fd ps []
structure Met (C : Addr) (k : Nat) (m : Str) (ps : List Str) (sp : Sp) : Prop where
  ex : ∃ f fd, Meth K C m f ∧ FnOk P w K mg base CX0 k f fd ps sp ∧ Binds K fd ps []
structure Prp (C : Addr) (k : Nat) (m : Str) (sp : Sp) : Prop where
  ex : ∃ p f fd, PropOf K C m p f ∧ FnOk P w K mg base CX0 k f fd ["self"] sp ∧ Binds K fd ["self"] []
end
section
variable {X : Cx} {k : Nat} {x : Str} {ps : List Str} {sp : Sp} {e : Expr} {es : List Expr} {t : TA} {pos p : Pos} {C : Addr} {ta : TE} {m : Str}
theorem pe_cal (c : Cal X.prog X.w X.K X.mg X.base k x ps sp) (hr : Room k X.A) (hg : Gl X x) (ha : PA X (e :: es) t)
    (hs : starEach (e :: es) X.env = (false, eval e X.env) :: starEach es X.env := by rfl) (hp : (backTo pos (starEach es X.env)).any (·.1) = false := by rfl)
    (hdb : (x == ("__debug__" : Str)) = false := by decide) : PE X (.Call (.Name x p) (e :: es) [] pos) (tCall sp [] E0 t) := by
  obtain ⟨f, fd, F, g, kp, b⟩ := c.ex
  exact pe_call F hr hg g kp b .nil pass0 ha hdb hs hp
theorem pe_cal0 (c : Cal X.prog X.w X.K X.mg X.base k x ps sp) (hr : Room k X.A) (hg : Gl X x)
    (hdb : (x == ("__debug__" : Str)) = false := by decide) : PE X (.Call (.Name x p) [] [] pos) (tCall sp [] E0 tNil) := by
  obtain ⟨f, fd, F, g, kp, b⟩ := c.ex
  exact pe_call0 F hr hg g kp b .nil pass0 hdb
theorem pe_mk (c : Mkc X.prog X.w X.K X.mg X.base C k x ps sp) (hr : Room (k + 1) X.A) (hg : Gl X x) (ha : PA X (e :: es) t)
    (hs : starEach (e :: es) X.env = (false, eval e X.env) :: starEach es X.env := by rfl) (hp : (backTo pos (starEach es X.env)).any (·.1) = false := by rfl)
    (hdb : (x == ("__debug__" : Str)) = false := by decide) : PE X (.Call (.Name x p) (e :: es) [] pos) (tMake C sp [] E0 t) := by
  obtain ⟨f, fd, M, F, g, b⟩ := c.ex
  exact pe_make M F hr hg g b .nil pass0 ha hdb hs hp
theorem pe_prp {p' : Expr} (c : Prp X.prog X.w X.K X.mg X.base C k m sp) (kc : Cls X.K C) (hr : Room (k + 1) X.A) (he : PE X p' ta)
    (hab : attributeBase p' m X.env (eval p' X.env) = eval p' X.env := by rfl) : PE X (.Attribute p' m pos) (tProp C sp [] E0 ta) := by
  obtain ⟨q, f, fd, hp, F, b⟩ := c.ex
  exact pe_prop he kc hp F hr b .nil pass0 hab
end
/-! ### steps -/
section
variable {σ : L2.St} {H : Hp} {Q : VK} {i : Nat} {v x y : V} {ta tb te tc : TE} {n : L2.St → Hp → Prop} {r : VK} {b c : L2.St → Hp → Prop} {t u : TS} {tt tu : TT} {R : Bool → Hp → Prop} {K : PySem.W.Frag} {al : TA} {W : List V → Hp → Prop}
theorem x_var (h : σ[i]? = some (some v)) (q : Q v H) : tVar i σ H Q := ⟨v, h, q⟩
theorem x_c (q : Q v H) : tC v σ H Q := q
theorem x_op {o : R2} (q : ta σ H fun x H1 => tb σ H1 fun y H2 => o x y H2 Q) : tOp o ta tb σ H Q := q
theorem x_un {o : V → Hp → VK → Prop} (q : ta σ H fun x H1 => o x H1 Q) : tUn o ta σ H Q := q
theorem x_I0 {g : Int → Int → V} {i j : Int} (q : Q (g i j) H) : rI0 g (.int i) (.int j) H Q := ⟨i, j, rfl, rfl, q⟩
theorem x_I {C : Int → Int → Prop} {g : Int → Int → V} {i j : Int} (hc : C i j) (q : Q (g i j) H) : rI C g (.int i) (.int j) H Q := ⟨i, j, rfl, rfl, hc, q⟩
theorem x_U {g : Int → V} {i : Int} (q : Q (g i) H) : rU g (.int i) H Q := ⟨i, rfl, q⟩
theorem x_eqI {i j : Int} (q : Q (.bl (decide (i = j))) H) : rEq (.int i) (.int j) H Q := ⟨rfl, by rw [show decide (V.int i = V.int j) = decide (i = j) from by simp]; exact q⟩
theorem x_eqS {i j : Str} (q : Q (.bl (decide (i = j))) H) : rEq (.str i) (.str j) H Q := ⟨rfl, by rw [show decide (V.str i = V.str j) = decide (i = j) from by simp]; exact q⟩
theorem x_eqB {i j : Bool} (q : Q (.bl (decide (i = j))) H) : rEq (.bl i) (.bl j) H Q := ⟨rfl, by rw [show decide (V.bl i = V.bl j) = decide (i = j) from by simp]; exact q⟩
theorem x_neI {i j : Int} (q : Q (.bl (!decide (i = j))) H) : rNe (.int i) (.int j) H Q := ⟨rfl, by rw [show decide (V.int i = V.int j) = decide (i = j) from by simp]; exact q⟩
theorem x_neS {i j : Str} (q : Q (.bl (!decide (i = j))) H) : rNe (.str i) (.str j) H Q := ⟨rfl, by rw [show decide (V.str i = V.str j) = decide (i = j) from by simp]; exact q⟩
theorem x_neB {i j : Bool} (q : Q (.bl (!decide (i = j))) H) : rNe (.bl i) (.bl j) H Q := ⟨rfl, by rw [show decide (V.bl i = V.bl j) = decide (i = j) from by simp]; exact q⟩
theorem x_bl {k : Bool} (q : R k H) : ∃ c, V.bl k = V.bl c ∧ R c H := ⟨k, rfl, q⟩
theorem x_test (q : te σ H fun x H1 => ∃ k, x = .bl k ∧ R k H1) : tTest te σ H R := q
theorem x_B (q : te σ H fun x H1 => ∃ k, x = .bl k ∧ R k H1) : tB te σ H R := q
theorem x_not (q : tt σ H fun c H1 => R (!c) H1) : tNot tt σ H R := q
theorem x_and (q : tt σ H fun c H1 => if c = true then tu σ H1 R else R false H1) : tAnd tt tu σ H R := q
theorem x_or (q : tt σ H fun c H1 => if c = true then R true H1 else tu σ H1 R) : tOr tt tu σ H R := q
theorem x_andV (q : ta σ H fun x H1 => ∃ c, x = .bl c ∧ if c = true then tb σ H1 Q else Q (.bl false) H1) : tAndV ta tb σ H Q := q
theorem x_orV (q : ta σ H fun x H1 => ∃ c, x = .bl c ∧ if c = true then Q (.bl true) H1 else tb σ H1 Q) : tOrV ta tb σ H Q := q
theorem x_notV (q : ta σ H fun x H1 => ∃ c, x = .bl c ∧ Q (.bl (!c)) H1) : tNotV ta σ H Q := q
theorem x_blV {k : Bool} {F : Bool → Prop} (q : F k) : ∃ c, V.bl k = V.bl c ∧ F c := ⟨k, rfl, q⟩
theorem x_ifE (q : tt σ H fun c H1 => if c = true then ta σ H1 Q else tb σ H1 Q) : tIf tt ta tb σ H Q := q
theorem x_chain {o o' : R2} (q : ta σ H fun x H1 => tb σ H1 fun y H2 => o x y H2 fun z H3 => ∃ k, z = .bl k ∧ (if k = true then tc σ H3 fun w' H4 => o' y w' H4 Q else Q (.bl false) H3)) : tChain o o' ta tb tc σ H Q := q
theorem x_nil (q : W [] H) : tNil σ H W := q
theorem x_cons {ar : TA} (q : ta σ H fun x H1 => ar σ H1 fun xs H2 => W (x :: xs) H2) : tCons ta ar σ H W := q
theorem x_tup (q : al σ H fun xs H1 => xs.length ≤ sizeLine ∧ ∀ p, H1 p = none → Q (.ref p) (upd H1 p (.tup xs))) : tTup al σ H Q := q
theorem x_lst (q : al σ H fun xs H1 => xs.length ≤ sizeLine ∧ ∀ p, H1 p = none → Q (.ref p) (upd H1 p (.lst xs))) : tLst al σ H Q := q
theorem x_cb {o : List V → Hp → VK → Prop} (q : al σ H fun vs H1 => o vs H1 Q) : tCB o al σ H Q := q
theorem x_call {sp : Sp} {E : XK} (q : al σ H fun vs H1 => sp vs H1 Q E) : tCall sp [] E al σ H Q := by
  show al σ H fun vs H1 => sp (vs ++ []) H1 Q E
  have e : (fun (vs : List V) (H1 : Hp) => sp (vs ++ []) H1 Q E) = fun vs H1 => sp vs H1 Q E := by
    funext vs H1
    rw [List.append_nil]
  rw [e]
  exact q
theorem x_make {C : Addr} {sp : Sp} {E : XK} (q : al σ H fun vs H1 => ∀ x dx, H1 x = none → H1 dx = none → dx ≠ x → sp (.ref x :: vs) (upd (upd H1 dx (.own x)) x (.ins C dx [])) (fun v H2 => v = .non ∧ Q (.ref x) H2) E) : tMake C sp [] E al σ H Q := by
  have e : (fun (vs : List V) (H1 : Hp) => ∀ x dx, H1 x = none → H1 dx = none → dx ≠ x → sp (.ref x :: (vs ++ [])) (upd (upd H1 dx (.own x)) x (.ins C dx [])) (fun v H2 => v = .non ∧ Q (.ref x) H2) E) =
      fun (vs : List V) (H1 : Hp) => ∀ x dx, H1 x = none → H1 dx = none → dx ≠ x → sp (.ref x :: vs) (upd (upd H1 dx (.own x)) x (.ins C dx [])) (fun v H2 => v = .non ∧ Q (.ref x) H2) E := by
    funext vs H1
    rw [List.append_nil]
  show al σ H fun vs H1 => ∀ x dx, H1 x = none → H1 dx = none → dx ≠ x → sp (.ref x :: (vs ++ [])) (upd (upd H1 dx (.own x)) x (.ins C dx [])) (fun v H2 => v = .non ∧ Q (.ref x) H2) E
  rw [e]
  exact q
/-! ### statements -/
theorem x_seq (h : t ⟨u ⟨n, r, b, c⟩, r, b, c⟩ σ H) : tSeq t u ⟨n, r, b, c⟩ σ H := h
theorem x_next (h : n σ H) : tNext ⟨n, r, b, c⟩ σ H := h
theorem x_brk (h : b σ H) : tBreak ⟨n, r, b, c⟩ σ H := h
theorem x_cont (h : c σ H) : tCont ⟨n, r, b, c⟩ σ H := h
theorem x_ret (h : te σ H r) : tRet te ⟨n, r, b, c⟩ σ H := h
theorem x_retN (h : r .non H) : tRetN ⟨n, r, b, c⟩ σ H := h
theorem x_drop (h : te σ H fun _ H1 => n σ H1) : tDrop te ⟨n, r, b, c⟩ σ H := h
theorem x_set (h : te σ H fun v H1 => n (σ.set i (some v)) H1) : tAsg te (gName i) ⟨n, r, b, c⟩ σ H := h
theorem x_if (h : tt σ H fun k H1 => if k = true then t ⟨n, r, b, c⟩ σ H1 else u ⟨n, r, b, c⟩ σ H1) : tIfS tt t u ⟨n, r, b, c⟩ σ H := h
theorem x_nx (h : n σ H) : (Ends.mk n r b c).nx σ H := h
theorem x_par {i j : Nat} (h : al σ H fun vs H1 => ∃ v w, vs = [v, w] ∧ n ((σ.set i (some v)).set j (some w)) H1) : tPar i j al ⟨n, r, b, c⟩ σ H := h
theorem x_par2 {F : V → V → Prop} {v w : V} (h : F v w) : ∃ v' w', [v, w] = [v', w'] ∧ F v' w' := ⟨v, w, rfl, h⟩
theorem x_aug {j : Nat} {tip : TIp} (hx : σ[j]? = some (some x)) (h : te σ H fun y H1 => tip x y H1 fun z H2 => n (σ.set j (some z)) H2) : tAug j te tip ⟨n, r, b, c⟩ σ H := ⟨x, hx, h⟩
theorem x_ipI {f : Int → Int → Int} {i j : Int} (q : Q (.int (f i j)) H) : ipI f (.int i) (.int j) H Q := ⟨i, j, rfl, rfl, q⟩
/-- xs[i] = v -/
theorem x_setL (h : te σ H fun v H0 => ta σ H0 fun o H1 => tb σ H1 fun k H2 => rSetL o k v H2 fun H3 => n σ H3) : tAsg te (gSub ta tb rSetL) ⟨n, r, b, c⟩ σ H := h
theorem x_setl {l : Addr} {xs : List V} {j : Nat} {k : Int} {N : Hp → Prop} (h : H l = some (.lst xs)) (hk : k = (j : Int)) (hj : j < xs.length) (q : N (upd H l (.lst (xs.set j v)))) : rSetL (.ref l) (.int k) v H N :=
  ⟨l, xs, k, j, rfl, rfl, h, by subst hk; unfold ixN; rw [if_pos (by omega), if_pos (by omega)]; simp, q⟩
/-- a test decided -/
theorem x_ite {A B : Prop} {k : Bool} (h1 : k = true → A) (h2 : k = false → B) : if k = true then A else B := by
  cases k with
  | true => exact h1 rfl
  | false =>
    show if false = true then A else B
    rw [if_neg Bool.false_ne_true]
    exact h2 rfl
theorem x_dec {A B p : Prop} [Decidable p] (h1 : p → A) (h2 : ¬ p → B) : if decide p = true then A else B := x_ite (fun e => h1 (of_decide_eq_true e)) fun e => h2 (of_decide_eq_false e)
theorem x_ndec {A B p : Prop} [Decidable p] (h1 : ¬ p → A) (h2 : p → B) : if (!decide p) = true then A else B := x_ite (fun e => h1 (of_decide_eq_false (by simpa using e))) fun e => h2 (of_decide_eq_true (by simpa using e))
theorem x_yes {A B p : Prop} [Decidable p] (hp : p) (h1 : A) : if decide p = true then A else B := x_dec (fun _ => h1) fun z => absurd hp z
theorem x_no {A B p : Prop} [Decidable p] (hp : ¬ p) (h2 : B) : if decide p = true then A else B := x_dec (fun z => absurd z hp) fun _ => h2
theorem x_T {A B : Prop} (h : A) : if true = true then A else B := x_ite (fun _ => h) fun z => by cases z
theorem x_F {A B : Prop} (h : B) : if false = true then A else B := x_ite (fun z => by cases z) fun _ => h
theorem x_nT {A B : Prop} (h : B) : if (!true) = true then A else B := x_F h
theorem x_nF {A B : Prop} (h : A) : if (!false) = true then A else B := x_T h
theorem x_nyes {A B p : Prop} [Decidable p] (hp : p) (h2 : B) : if (!decide p) = true then A else B := x_ndec (fun z => absurd hp z) fun _ => h2
theorem x_nno {A B p : Prop} [Decidable p] (hp : ¬ p) (h1 : A) : if (!decide p) = true then A else B := x_ndec (fun _ => h1) fun z => absurd z hp
/-! ### values of built-ins -/
theorem x_ixL {p : Addr} {xs : List V} {k : Int} (h : SqL K H p xs) (ha : atI xs k = some v) (q : Q v H) : rIxL K (.ref p) (.int k) H Q := ⟨p, xs, k, v, rfl, rfl, h, ha, q⟩
theorem x_ixT {p : Addr} {xs : List V} {k : Int} (h : SqT K H p xs) (ha : atI xs k = some v) (q : Q v H) : rIxT K (.ref p) (.int k) H Q := ⟨p, xs, k, v, rfl, rfl, h, ha, q⟩
theorem x_ixS {z : Str} {k : Int} {d : Nat} (h : z.length ≤ sizeLine) (ha : atI z.cps.toList k = some d) (q : Q (.str ⟨#[d]⟩) H) : rIxS (.str z) (.int k) H Q := ⟨z, k, d, rfl, rfl, h, ha, q⟩
theorem x_bm {T : String} {o : V → List V → Hp → VK → Prop} (q : ta σ H fun x H1 => tyV K T x H1 ∧ al σ H1 fun xs H2 => o x xs H2 Q) : tBM K T o ta al σ H Q := q
theorem x_bm0 {T : String} {o : V → List V → Hp → VK → Prop} (q : ta σ H fun x H1 => tyV K T x H1 ∧ o x [] H1 Q) : tBM0 K T o ta σ H Q := q
theorem x_tyL {p : Addr} {xs : List V} {A : Prop} (h : SqL K H p xs) (q : A) : tyV K "list" (.ref p) H ∧ A := ⟨.inl ⟨rfl, xs, h⟩, q⟩
theorem x_app {l : Addr} {xs : List V} (h : H l = some (.lst xs)) (hl : xs.length < sizeLine) (q : Q .non (upd H l (.lst (xs ++ [y])))) : rAppend (.ref l) [y] H Q := ⟨l, xs, y, rfl, rfl, h, hl, q⟩
theorem x_popAt {l : Addr} {xs : List V} {j : Nat} {k : Int} (h : H l = some (.lst xs)) (hk : k = (j : Int)) (hj : xs[j]? = some y) (hs : xs.length ≤ 10000) (q : Q y (upd H l (.lst (xs.eraseIdx j)))) : rPopAt (.ref l) [.int k] H Q := by
  have hlt : j < xs.length := (List.getElem?_eq_some_iff.mp hj).1
  subst hk
  refine ⟨l, xs, _, j, y, rfl, rfl, h, by omega, by omega, ?_, hj, q⟩
  unfold seqIndex?
  first
    | (rw [if_neg (by omega), if_pos (by omega)]; simp)
    | (simp; omega)
    | (simp [hlt])
end
/-! ### loops, each by a word over turn, slots and heap -/
section
variable {σ : L2.St} {H : Hp} {te : TE} {n : L2.St → Hp → Prop} {r : VK} {b c : L2.St → Hp → Prop} {tb : TS} {g : TG} {K : PySem.W.Frag} {al : TA} {p : Addr}
/-- the loop over what J tells -/
def Lp (J : It) (g : TG) (tb : TS) (D : Ends) (σ : L2.St) (H : Hp) : Prop := ∃ W : Nat → Nat → L2.St → Hp → Prop, (∃ m, W 0 m σ H) ∧ ∀ i m σ H, W i m σ H →
  (J.stop i H ∧ D.nx σ H) ∨ (J.go i H ∧ ∃ N : L2.St → Hp → Prop, (∀ σ' H', N σ' H' → ∃ m', m' < m ∧ W (i + 1) m' σ' H') ∧ ∀ x H', J.yld i H x H' → g x σ H' fun σ2 H2 => tb { D with nx := N, ct := N, bk := D.nx } σ2 H2)
def LpL (K : PySem.W.Frag) (g : TG) (tb : TS) (D : Ends) (σ : L2.St) (x : V) (H : Hp) : Prop := ∃ a, x = .ref a ∧ (∃ xs, SqL K H a xs) ∧ Lp (Itl K a) g tb D σ H
def LpT (K : PySem.W.Frag) (g : TG) (tb : TS) (D : Ends) (σ : L2.St) (x : V) (H : Hp) : Prop := ∃ a, x = .ref a ∧ (∃ xs, SqT K H a xs) ∧ Lp (Itt K a) g tb D σ H
def LpR (g : TG) (tb : TS) (D : Ends) (σ : L2.St) (vs : List V) (H : Hp) : Prop := ∃ j : Int, vs = [.int j] ∧ -(2 ^ 62) ≤ j ∧ j < 2 ^ 62 ∧ Lp (Itr 0 j.toNat) g tb D σ H
def LpR2 (g : TG) (tb : TS) (D : Ends) (σ : L2.St) (vs : List V) (H : Hp) : Prop := ∃ i j : Int, vs = [.int i, .int j] ∧ (-(2 ^ 62) ≤ i ∧ i < 2 ^ 62 ∧ -(2 ^ 62) ≤ j ∧ j < 2 ^ 62) ∧ Lp (Itr i (j - i).toNat) g tb D σ H
def LpS (g : TG) (tb : TS) (D : Ends) (σ : L2.St) (x : V) (H : Hp) : Prop := ∃ z, x = .str z ∧ Lp (Its z) g tb D σ H
def LpK (g : TG) (tb : TS) (D : Ends) (σ : L2.St) (x : V) (H : Hp) : Prop := ∃ d o, x = .ref d ∧ ((∃ kvs, H d = some (.frz o (.dK kvs)) ∧ Lp (Itk d o kvs) g tb D σ H) ∨ ∃ kvs, H d = some (.frz o (.dT kvs)) ∧ Lp (Itkt d o kvs) g tb D σ H)
def LpI (g : TG) (tb : TS) (D : Ends) (σ : L2.St) (x : V) (H : Hp) : Prop := ∃ d o kvs, x = .ref d ∧ H d = some (.frz o (.dK kvs)) ∧ Lp (Iti d o kvs) g tb D σ H
def LpV (g : TG) (tb : TS) (D : Ends) (σ : L2.St) (x : V) (H : Hp) : Prop := ∃ d o kvs, x = .ref d ∧ H d = some (.frz o (.dK kvs)) ∧ Lp (Itd d o kvs) g tb D σ H
theorem x_forL (h : te σ H fun x H1 => LpL K g tb ⟨n, r, b, c⟩ σ x H1) : tFor (iList K te) g tb ⟨n, r, b, c⟩ σ H := h
theorem x_forT (h : te σ H fun x H1 => LpT K g tb ⟨n, r, b, c⟩ σ x H1) : tFor (iTup K te) g tb ⟨n, r, b, c⟩ σ H := h
theorem x_forR (h : al σ H fun x H1 => LpR g tb ⟨n, r, b, c⟩ σ x H1) : tFor (iRng1 al) g tb ⟨n, r, b, c⟩ σ H := h
theorem x_forR2 (h : al σ H fun x H1 => LpR2 g tb ⟨n, r, b, c⟩ σ x H1) : tFor (iRng2 al) g tb ⟨n, r, b, c⟩ σ H := h
theorem x_forS (h : te σ H fun x H1 => LpS g tb ⟨n, r, b, c⟩ σ x H1) : tFor (iStr te) g tb ⟨n, r, b, c⟩ σ H := h
theorem x_forK (h : te σ H fun x H1 => LpK g tb ⟨n, r, b, c⟩ σ x H1) : tFor (iKeys te) g tb ⟨n, r, b, c⟩ σ H := h
theorem x_forI (h : te σ H fun x H1 => LpI g tb ⟨n, r, b, c⟩ σ x H1) : tFor (iItems te) g tb ⟨n, r, b, c⟩ σ H := h
theorem x_forV (h : te σ H fun x H1 => LpV g tb ⟨n, r, b, c⟩ σ x H1) : tFor (iVals te) g tb ⟨n, r, b, c⟩ σ H := h
/-- a name of the loop: the turn stores it -/
theorem lp_by {J : It} {m : Nat} {G : Hp → Prop} {Y : Nat → Hp → V → Hp → Prop} (w : L2.Walk J m G Y) (Pv : Nat → L2.St → Hp → Prop) (h0 : Pv 0 σ H) (hG : ∀ i σ H, i ≤ m → Pv i σ H → G H)
    (hs : ∀ i x σ H H', i < m → Pv i σ H → Y i H x H' → g x σ H' fun σ2 H2 => tb ⟨Pv (i + 1), r, n, Pv (i + 1)⟩ σ2 H2) (hd : ∀ σ H, Pv m σ H → n σ H) : Lp J g tb ⟨n, r, b, c⟩ σ H := L2.for_it w Pv h0 hG hs hd
theorem lpL {xs : List V} (Pv : Nat → L2.St → Hp → Prop) (h : SqL K H p xs) (h0 : Pv 0 σ H) (hG : ∀ i σ H, i ≤ xs.length → Pv i σ H → SqL K H p xs)
    (hs : ∀ i x σ H, xs[i]? = some x → Pv i σ H → g x σ H fun σ2 H2 => tb ⟨Pv (i + 1), r, n, Pv (i + 1)⟩ σ2 H2) (hd : ∀ σ H, Pv xs.length σ H → n σ H) : LpL K g tb ⟨n, r, b, c⟩ σ (.ref p) H :=
  ⟨p, rfl, ⟨xs, h⟩, lp_by walk_list Pv h0 hG (fun i x σ H H' _ hp y => by obtain ⟨rfl, e⟩ := y; exact hs i x σ _ e hp) hd⟩
theorem lpT {xs : List V} (Pv : Nat → L2.St → Hp → Prop) (h : SqT K H p xs) (h0 : Pv 0 σ H) (hG : ∀ i σ H, i ≤ xs.length → Pv i σ H → SqT K H p xs)
    (hs : ∀ i x σ H, xs[i]? = some x → Pv i σ H → g x σ H fun σ2 H2 => tb ⟨Pv (i + 1), r, n, Pv (i + 1)⟩ σ2 H2) (hd : ∀ σ H, Pv xs.length σ H → n σ H) : LpT K g tb ⟨n, r, b, c⟩ σ (.ref p) H :=
  ⟨p, rfl, ⟨xs, h⟩, lp_by walk_tup Pv h0 hG (fun i x σ H H' _ hp y => by obtain ⟨rfl, e⟩ := y; exact hs i x σ _ e hp) hd⟩
theorem lpR {j : Int} (Pv : Nat → L2.St → Hp → Prop) (hj : -(2 ^ 62) ≤ j ∧ j < 2 ^ 62) (h0 : Pv 0 σ H)
    (hs : ∀ i σ H, i < j.toNat → Pv i σ H → g (.int (i : Int)) σ H fun σ2 H2 => tb ⟨Pv (i + 1), r, n, Pv (i + 1)⟩ σ2 H2) (hd : ∀ σ H, Pv j.toNat σ H → n σ H) : LpR g tb ⟨n, r, b, c⟩ σ [.int j] H :=
  ⟨j, rfl, hj.1, hj.2, lp_by walk_range Pv h0 (fun _ _ _ _ _ => trivial) (fun i x σ H H' hi hp y => by
    obtain ⟨rfl, rfl⟩ := y
    dsimp only
    rw [Int.zero_add]
    exact hs i σ _ hi hp) hd⟩
theorem lpR2 {i0 j : Int} (Pv : Nat → L2.St → Hp → Prop) (hj : (-(2 ^ 62) ≤ i0 ∧ i0 < 2 ^ 62 ∧ -(2 ^ 62) ≤ j ∧ j < 2 ^ 62)) (h0 : Pv 0 σ H)
    (hs : ∀ i σ H, i < (j - i0).toNat → Pv i σ H → g (.int (i0 + (i : Int))) σ H fun σ2 H2 => tb ⟨Pv (i + 1), r, n, Pv (i + 1)⟩ σ2 H2) (hd : ∀ σ H, Pv (j - i0).toNat σ H → n σ H) : LpR2 g tb ⟨n, r, b, c⟩ σ [.int i0, .int j] H :=
  ⟨i0, j, rfl, hj, lp_by walk_range Pv h0 (fun _ _ _ _ _ => trivial) (fun i x σ H H' hi hp y => by
    obtain ⟨rfl, rfl⟩ := y
    exact hs i σ _ hi hp) hd⟩
theorem lpS {z : Str} (Pv : Nat → L2.St → Hp → Prop) (h0 : Pv 0 σ H)
    (hs : ∀ i d σ H, z.cps[i]? = some d → Pv i σ H → g (.str ⟨#[d]⟩) σ H fun σ2 H2 => tb ⟨Pv (i + 1), r, n, Pv (i + 1)⟩ σ2 H2) (hd : ∀ σ H, Pv z.cps.size σ H → n σ H) : LpS g tb ⟨n, r, b, c⟩ σ (.str z) H :=
  ⟨z, rfl, lp_by walk_str Pv h0 (fun _ _ _ _ _ => trivial) (fun i x σ H H' hi hp y => by
    obtain ⟨rfl, d, e, rfl⟩ := y
    exact hs i d σ _ e hp) hd⟩
theorem lpK {o : Obj} {kvs : List (Key × V)} (Pv : Nat → L2.St → Hp → Prop) (h : H p = some (.frz o (.dK kvs))) (h0 : Pv 0 σ H) (hG : ∀ i σ H, i ≤ kvs.length → Pv i σ H → H p = some (.frz o (.dK kvs)))
    (hs : ∀ i k v σ H, kvs[i]? = some (k, v) → Pv i σ H → g (kV k) σ H fun σ2 H2 => tb ⟨Pv (i + 1), r, n, Pv (i + 1)⟩ σ2 H2) (hd : ∀ σ H, Pv kvs.length σ H → n σ H) : LpK g tb ⟨n, r, b, c⟩ σ (.ref p) H :=
  ⟨p, o, rfl, .inl ⟨kvs, h, lp_by walk_keys Pv h0 hG (fun i x σ H H' _ hp y => by
    obtain ⟨rfl, k, v, e, rfl⟩ := y
    exact hs i k v σ _ e hp) hd⟩⟩
theorem lpV {o : Obj} {kvs : List (Key × V)} (Pv : Nat → L2.St → Hp → Prop) (h : H p = some (.frz o (.dK kvs))) (h0 : Pv 0 σ H) (hG : ∀ i σ H, i ≤ kvs.length → Pv i σ H → H p = some (.frz o (.dK kvs)))
    (hs : ∀ i k v σ H, kvs[i]? = some (k, v) → Pv i σ H → g v σ H fun σ2 H2 => tb ⟨Pv (i + 1), r, n, Pv (i + 1)⟩ σ2 H2) (hd : ∀ σ H, Pv kvs.length σ H → n σ H) : LpV g tb ⟨n, r, b, c⟩ σ (.ref p) H :=
  ⟨p, o, kvs, rfl, h, lp_by walk_values Pv h0 hG (fun i x σ H H' _ hp y => by
    obtain ⟨rfl, k, e⟩ := y
    exact hs i k x σ _ e hp) hd⟩
/-- the pairs, a new tuple each -/
theorem lpI {o : Obj} {kvs : List (Key × V)} (Pv : Nat → L2.St → Hp → Prop) (h : H p = some (.frz o (.dK kvs))) (h0 : Pv 0 σ H) (hG : ∀ i σ H, i ≤ kvs.length → Pv i σ H → H p = some (.frz o (.dK kvs)))
    (hs : ∀ i k v σ H T, kvs[i]? = some (k, v) → Pv i σ H → H T = none → g (.ref T) σ (upd H T (.tup [kV k, v])) fun σ2 H2 => tb ⟨Pv (i + 1), r, n, Pv (i + 1)⟩ σ2 H2) (hd : ∀ σ H, Pv kvs.length σ H → n σ H) : LpI g tb ⟨n, r, b, c⟩ σ (.ref p) H :=
  ⟨p, o, kvs, rfl, h, lp_by walk_items Pv h0 hG (fun i x σ H H' hi hp y => by
    obtain ⟨T, k, v, rfl, hT, rfl, e1, e2⟩ := y
    dsimp only at e1 e2
    cases e : kvs[i]? with
    | none => rw [e] at e1; cases e1
    | some kv =>
      rw [e] at e1 e2
      have e3 : kV kv.1 = k := Option.some.inj e1
      have e4 : kv.2 = v := Option.some.inj e2
      subst e3 e4
      exact hs i kv.1 kv.2 σ _ T e hp hT) hd⟩
theorem x_g1 {v : V} {i : Nat} {N : L2.St → Hp → Prop} (h : N (σ.set i (some v)) H) : gName i v σ H N := h
theorem x_g2 {T : Addr} {v w : V} {i j : Nat} {N : L2.St → Hp → Prop} (ht : SqT K H T [v, w]) (h : N ((σ.set i (some v)).set j (some w)) H) : gTup K 2 (gCons (gName i) (gCons (gName j) gNil)) (.ref T) σ H N :=
  ⟨T, [v, w], rfl, ht, rfl, v, [w], rfl, w, [], rfl, rfl, h⟩
end
/-! ### heaps: all but one kept -/
def But (p : Addr) (H H' : Hp) : Prop := ∀ b o, H b = some o → b ≠ p → H' b = some o
theorem But.refl {p : Addr} {H : Hp} : But p H H := fun _ _ h _ => h
theorem But.trans {p : Addr} {H H1 H2 : Hp} (a : But p H H1) (b : But p H1 H2) : But p H H2 := fun q o h e => b q o (a q o h e) e
theorem But.at_ {p : Addr} {H H' : Hp} {o : HO} (a : But p H H') : But p H (upd H' p o) := fun q u h e => by rw [upd_ne e]; exact a q u h e
theorem But.new {p q : Addr} {H H' : Hp} {o : HO} (a : But p H H') (h : H' q = none) : But p H (upd H' q o) := fun b u hb e => by
  have h1 := a b u hb e
  rw [upd_ne (ne_of_none h1 h)]
  exact h1
theorem But.of_same {p : Addr} {H H' : Hp} (a : L2.Same H H') : But p H H' := fun b o h _ => a b o h
theorem But.lst {K : PySem.W.Frag} {p q : Addr} {xs : List V} {H H' : Hp} (a : But p H H') (e : q ≠ p) (h : SqL K H q xs) : SqL K H' q xs := by
  rcases h with (h | ⟨o, h⟩) | h
  · exact .inl (.inl (a _ _ h e))
  · exact .inl (.inr ⟨o, a _ _ h e⟩)
  · exact .inr h
theorem ne_old {H : Hp} {a b : Addr} {o : HO} (h' : H b = none) (h : H a = some o) : a ≠ b := ne_of_none h h'
theorem ne_two {H : Hp} {a b : Addr} {o u : HO} (h : H a = some o) (h' : H b = some u) (d : o ≠ u) : a ≠ b := ne_of h h' d
/-! ### named readings of rules (so that a step can be told by its head) -/
def rLenA (K : PySem.W.Frag) : List V → Hp → VK → Prop := fun xs H Q => ∃ x n, xs = [x] ∧ LenV K x H n ∧ Q (.int n) H
def rLenDA : List V → Hp → VK → Prop := fun xs H Q => ∃ a kvs, xs = [V.ref a] ∧ Rd H a (.dK kvs) ∧ Q (.int kvs.length) H
def rIntA : List V → Hp → VK → Prop := fun xs H Q => (∃ i, xs = [.int i] ∧ Q (.int i) H) ∨ ∃ k, xs = [.bl k] ∧ Q (.int (if k then 1 else 0)) H
def rStrIA : List V → Hp → VK → Prop := fun xs H Q => ∃ i, xs = [.int i] ∧ i.natAbs.log2 < 1920 ∧ Q (.str (toString i)) H
def rAbsA : List V → Hp → VK → Prop := fun xs H Q => ∃ i, xs = [.int i] ∧ Q (.int (if i < 0 then -i else i)) H
def rMax2A : List V → Hp → VK → Prop := fun xs H Q => ∃ i j, xs = [.int i, .int j] ∧ Q (.int (if j > i then j else i)) H
def rMin2A : List V → Hp → VK → Prop := fun xs H Q => ∃ i j, xs = [.int i, .int j] ∧ Q (.int (if j < i then j else i)) H
def rListA (K : PySem.W.Frag) : List V → Hp → VK → Prop := fun xs H Q => ∃ p ys, xs = [.ref p] ∧ (SqL K H p ys ∨ SqT K H p ys) ∧ ∀ l, H l = none → Q (.ref l) (upd H l (.lst ys))
def rTupleA (K : PySem.W.Frag) : List V → Hp → VK → Prop := fun xs H Q => ∃ p ys, xs = [.ref p] ∧ ((SqL K H p ys ∧ ∀ l, H l = none → Q (.ref l) (upd H l (.tup ys))) ∨ (SqT K H p ys ∧ Q (.ref p) H))
def rDictA : List V → Hp → VK → Prop := fun xs H Q => ∃ (a : Addr) (kvs : List (Key × V)), xs = [.ref a] ∧ Rd H a (.dK kvs) ∧ ∀ p, H p = none → Q (.ref p) (upd H p (.dK kvs))
def rStr2 (g : Str → Str → Bool) : R2 := fun x y H Q => ∃ i j, x = .str i ∧ y = .str j ∧ Q (.bl (g i j)) H
def rAddSA : R2 := fun x y H Q => ∃ i j, x = .str i ∧ y = .str j ∧ i.length + j.length ≤ sizeLine ∧ Q (.str (i ++ j)) H
def rInSA : R2 := fun x y H Q => ∃ (c : Nat) (z : Str), x = .str ⟨#[c]⟩ ∧ y = .str z ∧ Q (.bl (decide (c ∈ z.cps.toList))) H
def rNinSA : R2 := fun x y H Q => ∃ (c : Nat) (z : Str), x = .str ⟨#[c]⟩ ∧ y = .str z ∧ Q (.bl (!decide (c ∈ z.cps.toList))) H
def rIsNA : R2 := fun x y H Q => y = .non ∧ Q (.bl (decide (x = .non))) H
def rNotNA : R2 := fun x y H Q => y = .non ∧ Q (.bl (!decide (x = .non))) H
section
variable {X : Cx}
theorem call_lenA : CallR X (.builtin "len") (rLenA X.K) := call_len
theorem call_lenDA : CallR X (.builtin "len") rLenDA := by
  intro pins s σ H xs us Q I r h
  obtain ⟨a, kvs, rfl, ha, q⟩ := h
  obtain ⟨u, rfl, ru⟩ := vals1 r
  cases ru
  exact d_len I ha fun t s' I' => ⟨.int kvs.length, H, I', ⟨t, rfl⟩, q⟩
theorem call_intA : CallR X (.type "int") rIntA := call_int1
theorem call_strIA : CallR X (.type "str") rStrIA := call_str_int
theorem call_absA : CallR X (.builtin "abs") rAbsA := call_abs
theorem call_max2A (hc : X.calm = true) : CallR X (.builtin "max") rMax2A := call_max2 hc
theorem call_min2A (hc : X.calm = true) : CallR X (.builtin "min") rMin2A := call_min2 hc
theorem call_listA : CallR X (.type "list") (rListA X.K) := call_list_of
theorem call_tupleA : CallR X (.type "tuple") (rTupleA X.K) := call_tuple_of
theorem call_dictA : CallR X (.type "dict") rDictA := call_dictD
theorem op_ltS : OpR X (compareOp .Lt) (rStr2 fun i j => decide (i.cps.toList < j.cps.toList)) := op_lt_str
theorem op_leS : OpR X (compareOp .LtE) (rStr2 fun i j => !decide (j.cps.toList < i.cps.toList)) := op_le_str
theorem op_gtS : OpR X (compareOp .Gt) (rStr2 fun i j => decide (j.cps.toList < i.cps.toList)) := op_gt_str
theorem op_geS : OpR X (compareOp .GtE) (rStr2 fun i j => !decide (i.cps.toList < j.cps.toList)) := op_ge_str
theorem op_addSA : OpR X (binaryOp .Add) rAddSA := op_add_str
theorem op_inSA : OpR X (compareOp .In) rInSA := op_in_sign
theorem op_ninSA : OpR X (compareOp .NotIn) rNinSA := op_notIn_sign
theorem op_isNA : OpR X (compareOp .Is) rIsNA := op_isN
theorem op_notNA : OpR X (compareOp .IsNot) rNotNA := op_notN
end
section
variable {σ : L2.St} {H : Hp} {Q : VK} {v x y : V} {ta : TE} {K : PySem.W.Frag}
theorem x_lenL {p : Addr} {xs : List V} (h : SqL K H p xs) (q : Q (.int xs.length) H) : rLenA K [V.ref p] H Q := ⟨_, _, rfl, .inl ⟨xs, h, rfl⟩, q⟩
theorem x_lenT {p : Addr} {xs : List V} (h : SqT K H p xs) (q : Q (.int xs.length) H) : rLenA K [V.ref p] H Q := ⟨_, _, rfl, .inr ⟨xs, h, rfl⟩, q⟩
theorem x_lenS {z : Str} (h : z.length ≤ sizeLine) (q : Q (.int z.length) H) : rLenA K [V.str z] H Q := ⟨_, _, rfl, ⟨h, rfl⟩, q⟩
theorem x_lenD {p : Addr} {kvs : List (Key × V)} (h : Rd H p (.dK kvs)) (q : Q (.int kvs.length) H) : rLenDA [V.ref p] H Q := ⟨p, kvs, rfl, h, q⟩
theorem x_intI {i : Int} (q : Q (.int i) H) : rIntA [V.int i] H Q := .inl ⟨i, rfl, q⟩
theorem x_strI {i : Int} (h : i.natAbs.log2 < 1920) (q : Q (.str (toString i)) H) : rStrIA [V.int i] H Q := ⟨i, rfl, h, q⟩
theorem x_abs {i : Int} (q : Q (.int (if i < 0 then -i else i)) H) : rAbsA [V.int i] H Q := ⟨i, rfl, q⟩
theorem x_max2 {i j : Int} (q : Q (.int (if j > i then j else i)) H) : rMax2A [V.int i, V.int j] H Q := ⟨i, j, rfl, q⟩
theorem x_min2 {i j : Int} (q : Q (.int (if j < i then j else i)) H) : rMin2A [V.int i, V.int j] H Q := ⟨i, j, rfl, q⟩
theorem x_str2 {g : Str → Str → Bool} {i j : Str} (q : Q (.bl (g i j)) H) : rStr2 g (.str i) (.str j) H Q := ⟨i, j, rfl, rfl, q⟩
theorem x_addS {i j : Str} (h : i.length + j.length ≤ sizeLine) (q : Q (.str (i ++ j)) H) : rAddSA (.str i) (.str j) H Q := ⟨i, j, rfl, rfl, h, q⟩
theorem x_inS {d : Nat} {z : Str} (q : Q (.bl (decide (d ∈ z.cps.toList))) H) : rInSA (.str ⟨#[d]⟩) (.str z) H Q := ⟨d, z, rfl, rfl, q⟩
theorem x_ninS {d : Nat} {z : Str} (q : Q (.bl (!decide (d ∈ z.cps.toList))) H) : rNinSA (.str ⟨#[d]⟩) (.str z) H Q := ⟨d, z, rfl, rfl, q⟩
theorem x_isN (q : Q (.bl (decide (x = .non))) H) : rIsNA x .non H Q := ⟨rfl, q⟩
theorem x_notN (q : Q (.bl (!decide (x = .non))) H) : rNotNA x .non H Q := ⟨rfl, q⟩
theorem x_listL {p : Addr} {xs : List V} (h : SqL K H p xs) (q : ∀ l, H l = none → Q (.ref l) (upd H l (.lst xs))) : rListA K [V.ref p] H Q := ⟨p, xs, rfl, .inl h, q⟩
theorem x_listT {p : Addr} {xs : List V} (h : SqT K H p xs) (q : ∀ l, H l = none → Q (.ref l) (upd H l (.lst xs))) : rListA K [V.ref p] H Q := ⟨p, xs, rfl, .inr h, q⟩
theorem x_tupL {p : Addr} {xs : List V} (h : SqL K H p xs) (q : ∀ l, H l = none → Q (.ref l) (upd H l (.tup xs))) : rTupleA K [V.ref p] H Q := ⟨p, xs, rfl, .inl ⟨h, q⟩⟩
theorem x_tupT {p : Addr} {xs : List V} (h : SqT K H p xs) (q : Q (.ref p) H) : rTupleA K [V.ref p] H Q := ⟨p, xs, rfl, .inr ⟨h, q⟩⟩
theorem x_dict {p : Addr} {kvs : List (Key × V)} (h : Rd H p (.dK kvs)) (q : ∀ l, H l = none → Q (.ref l) (upd H l (.dK kvs))) : rDictA [V.ref p] H Q := ⟨p, kvs, rfl, h, q⟩
def rFldA (K : PySem.W.Frag) (f : Str) (x : V) (H : Hp) (Q : VK) : Prop := ∃ a C dx fs v, x = .ref a ∧ H a = some (.ins C dx fs) ∧ Cls K C ∧ NoAttr K C f ∧ fs.lookup f = some v ∧ Q v H
theorem x_Fld {f : Str} (q : ta σ H fun x H1 => rFldA K f x H1 Q) : tFld K ta f σ H Q := q
theorem x_fld {a C dx : Addr} {fs : List (Str × V)} {f : Str} (hc : Cls K C) (hn : NoAttr K C f) (h : H a = some (.ins C dx fs)) (hl : fs.lookup f = some v) (q : Q v H) : rFldA K f (.ref a) H Q := ⟨a, C, dx, fs, v, rfl, h, hc, hn, hl, q⟩
end
end Ox
namespace Ox
open PySem PySem.Spec PyProof.Rows L2
theorem divok2 {i j : Int} (h : 0 < j) (h2 : j < 2 ^ 200) : CDivW i j := wide_div (b := 200) h (by omega) (by decide) (by decide)
end Ox
namespace Ox
open PySem PySem.Spec PyProof.Rows L2
section
variable {H : Hp} {Q : VK} {v : V} {K : PySem.W.Frag}
theorem x_ixl {p : Addr} {xs : List V} {k : Int} (j : Nat) (h : SqL K H p xs) (hk : k = (j : Int)) (ha : xs[j]? = some v) (q : Q v H) : rIxL K (.ref p) (.int k) H Q := x_ixL h (at_of hk ha) q
theorem x_ixt {p : Addr} {xs : List V} {k : Int} (j : Nat) (h : SqT K H p xs) (hk : k = (j : Int)) (ha : xs[j]? = some v) (q : Q v H) : rIxT K (.ref p) (.int k) H Q := x_ixT h (at_of hk ha) q
theorem x_ixs {z : Str} {k : Int} {d : Nat} (j : Nat) (h : z.length ≤ sizeLine) (hk : k = (j : Int)) (ha : z.cps.toList[j]? = some d) (q : Q (.str ⟨#[d]⟩) H) : rIxS (.str z) (.int k) H Q :=
  x_ixS h (by subst hk; exact atI_nat ha) q
end
end Ox
namespace Ox
open PySem PySem.Spec PyProof.Rows L2
theorem same_new {H : Hp} {p : Addr} {o : HO} (h : H p = none) : L2.Same H (upd H p o) := fun b u e => by rw [upd_ne (ne_of_none e h)]; exact e
/-- what H does not hold may change -/
theorem same_upd {H H' : Hp} {p : Addr} {o : HO} (s : L2.Same H H') (h : H p = none) : L2.Same H (upd H' p o) := fun b u e => by rw [upd_ne (ne_of_none e h)]; exact s b u e
theorem same_but {p : Addr} {H H1 H2 : Hp} (s : L2.Same H H1) (h : H p = none) (b : But p H1 H2) : L2.Same H H2 := fun q u e => b q u (s q u e) (ne_of_none e h)
theorem same_t {K : PySem.W.Frag} {H H' : Hp} {a : Addr} {xs : List V} (e : L2.Same H H') (h : SqT K H a xs) : SqT K H' a xs := by
  rcases h with (h | ⟨o, h⟩) | h
  · exact .inl (.inl (e _ _ h))
  · exact .inl (.inr ⟨o, e _ _ h⟩)
  · exact .inr h
theorem same_rd {H H' : Hp} {a : Addr} {u : HO} (e : L2.Same H H') (h : Rd H a u) : Rd H' a u := by
  rcases h with h | ⟨o, h⟩
  · exact .inl (e _ _ h)
  · exact .inr ⟨o, e _ _ h⟩
theorem but_rd {p : Addr} {H H' : Hp} {a : Addr} {u : HO} (e : But p H H') (n : a ≠ p) (h : Rd H a u) : Rd H' a u := by
  rcases h with h | ⟨o, h⟩
  · exact .inl (e _ _ h n)
  · exact .inr ⟨o, e _ _ h n⟩
theorem sz_le {n : Nat} (h : n ≤ 10000) : n ≤ sizeLine := Nat.le_trans h (by decide)
theorem sz_lt {n : Nat} (h : n < 10000) : n < sizeLine := Nat.lt_of_lt_of_le h (by decide)
end Ox
namespace Ox
open PySem PySem.Spec PyProof.Rows L2
theorem inV_strs (z : Str) (ws : List Str) : inV (.str z) (ws.map V.str) = decide (z ∈ ws) := by
  unfold inV
  induction ws with
  | nil => simp
  | cons a r ih =>
    rw [List.map_cons, List.any_cons, ih]
    show (a == z || decide (z ∈ r)) = decide (z ∈ a :: r)
    by_cases e : a = z
    · subst e
      simp
    · have e2 : (a == z) = false := by simpa using e
      have e3 : ¬ z = a := fun q => e q.symm
      rw [e2]
      simp [List.mem_cons, e3]
theorem flat_strs (ws : List Str) : (ws.map V.str).all flatV = true := by
  rw [List.all_map]
  exact List.all_eq_true.mpr fun _ _ => rfl
theorem inV_ints (z : Int) (ws : List Int) : inV (.int z) (ws.map V.int) = decide (z ∈ ws) := by
  unfold inV
  induction ws with
  | nil => simp
  | cons a r ih =>
    rw [List.map_cons, List.any_cons, ih]
    show (a == z || decide (z ∈ r)) = decide (z ∈ a :: r)
    by_cases e : a = z
    · subst e
      simp
    · have e2 : (a == z) = false := by simpa using e
      have e3 : ¬ z = a := fun q => e q.symm
      rw [e2]
      simp [List.mem_cons, e3]
theorem flat_ints (ws : List Int) : (ws.map V.int).all flatV = true := by
  rw [List.all_map]
  exact List.all_eq_true.mpr fun _ _ => rfl
section
variable {H : Hp} {Q : VK} {K : PySem.W.Frag} {p : Addr}
theorem x_inL {ws : List Str} {z : Str} (h : SqL K H p (ws.map V.str)) (q : Q (.bl (decide (z ∈ ws))) H) : rIn K false (.str z) (.ref p) H Q :=
  ⟨p, _, rfl, .inl h, rfl, flat_strs ws, by rw [inV_strs]; exact q⟩
theorem x_ninL {ws : List Str} {z : Str} (h : SqL K H p (ws.map V.str)) (q : Q (.bl (!decide (z ∈ ws))) H) : rIn K true (.str z) (.ref p) H Q :=
  ⟨p, _, rfl, .inl h, rfl, flat_strs ws, by rw [inV_strs]; exact q⟩
theorem x_inTs {ws : List Str} {z : Str} (h : SqT K H p (ws.map V.str)) (q : Q (.bl (decide (z ∈ ws))) H) : rIn K false (.str z) (.ref p) H Q :=
  ⟨p, _, rfl, .inr h, rfl, flat_strs ws, by rw [inV_strs]; exact q⟩
theorem x_inTi {ws : List Int} {z : Int} (h : SqT K H p (ws.map V.int)) (q : Q (.bl (decide (z ∈ ws))) H) : rIn K false (.int z) (.ref p) H Q :=
  ⟨p, _, rfl, .inr h, rfl, flat_ints ws, by rw [inV_ints]; exact q⟩
theorem x_ninTi {ws : List Int} {z : Int} (h : SqT K H p (ws.map V.int)) (q : Q (.bl (!decide (z ∈ ws))) H) : rIn K true (.int z) (.ref p) H Q :=
  ⟨p, _, rfl, .inr h, rfl, flat_ints ws, by rw [inV_ints]; exact q⟩
end
end Ox
namespace Ox
open PySem PySem.Spec PyProof.Rows L2
/-! ### comprehensions -/
section
variable {σ : L2.St} {H : Hp} {Q : VK} {te tk tv : TE} {n : L2.St → Hp → Prop} {r : VK} {b c : L2.St → Hp → Prop} {t : TS} {g : TG} {tt : TT} {K : PySem.W.Frag} {al : TA} {p D : Addr} {vs : List Nat} {wi : TI} {Qd : Hp → Prop}
def LcP (J : It) (g : TG) (tt : TT) (te : TE) (vs : List Nat) (σ : L2.St) (D : Addr) (Qd : Hp → Prop) (H1 : Hp) : Prop := ∃ W : Nat → Nat → Hp → Prop, (∃ m, W 0 m (upd H1 D (.lst []))) ∧ ∀ i m H, W i m H →
  (J.stop i H ∧ Qd H) ∨ (J.go i H ∧ ∃ Nx : Hp → Prop, (∀ H', Nx H' → ∃ m', m' < m ∧ W (i + 1) m' H') ∧ ∀ x H', J.yld i H x H' → g x (wipe σ vs) H' fun σ2 H2 => wipe σ2 vs = wipe σ vs ∧ tt σ2 H2 fun b H3 =>
    if b = true then te σ2 H3 fun y H4 => ∃ acc, H4 D = some (.lst acc) ∧ acc.length < sizeLine ∧ Nx (upd H4 D (.lst (acc ++ [y]))) else Nx H3)
def DcP (J : It) (g : TG) (tt : TT) (tk tv : TE) (vs : List Nat) (σ : L2.St) (D : Addr) (Qd : Hp → Prop) (H1 : Hp) : Prop := ∃ W : Nat → Nat → Hp → Prop, (∃ m, W 0 m (upd H1 D (.dK []))) ∧ ∀ i m H, W i m H →
  (J.stop i H ∧ Qd H) ∨ (J.go i H ∧ ∃ Nx : Hp → Prop, (∀ H', Nx H' → ∃ m', m' < m ∧ W (i + 1) m' H') ∧ ∀ x H', J.yld i H x H' → g x (wipe σ vs) H' fun σ2 H2 => wipe σ2 vs = wipe σ vs ∧ tt σ2 H2 fun b H3 =>
    if b = true then tk σ2 H3 fun y H4 => tv σ2 H4 fun z H5 => ∃ kvs k, y = kV k ∧ H5 D = some (.dK kvs) ∧ kvs.length < sizeLine ∧ Nx (upd H5 D (.dK (putK kvs k z))) else Nx H3)
theorem x_lc (h : wi σ H fun J H1 => ∀ D, H1 D = none → LcP J g tt te vs σ D (fun H2 => Q (.ref D) H2) H1) : tLc wi g tt te vs σ H Q := h
theorem x_dc (h : wi σ H fun J H1 => ∀ D, H1 D = none → DcP J g tt tk tv vs σ D (fun H2 => Q (.ref D) H2) H1) : tDc wi g tt tk tv vs σ H Q := h
theorem x_yes1 {R : Bool → Hp → Prop} (h : R true H) : tYes σ H R := h
def RunK (R : It → Hp → Prop) (x : V) (H : Hp) : Prop := ∃ d o, x = .ref d ∧ ((∃ kvs, H d = some (.frz o (.dK kvs)) ∧ R (Itk d o kvs) H) ∨ ∃ kvs, H d = some (.frz o (.dT kvs)) ∧ R (Itkt d o kvs) H)
def RunV (R : It → Hp → Prop) (x : V) (H : Hp) : Prop := ∃ d o kvs, x = .ref d ∧ H d = some (.frz o (.dK kvs)) ∧ R (Itd d o kvs) H
def RunI (R : It → Hp → Prop) (x : V) (H : Hp) : Prop := ∃ d o kvs, x = .ref d ∧ H d = some (.frz o (.dK kvs)) ∧ R (Iti d o kvs) H
def RunL (K : PySem.W.Frag) (R : It → Hp → Prop) (x : V) (H : Hp) : Prop := ∃ a, x = .ref a ∧ (∃ xs, SqL K H a xs) ∧ R (Itl K a) H
def RunT (K : PySem.W.Frag) (R : It → Hp → Prop) (x : V) (H : Hp) : Prop := ∃ a, x = .ref a ∧ (∃ xs, SqT K H a xs) ∧ R (Itt K a) H
def RunS (R : It → Hp → Prop) (x : V) (H : Hp) : Prop := ∃ z, x = .str z ∧ R (Its z) H
def RunR (R : It → Hp → Prop) (vs : List V) (H : Hp) : Prop := ∃ j : Int, vs = [.int j] ∧ -(2 ^ 62) ≤ j ∧ j < 2 ^ 62 ∧ R (Itr 0 j.toNat) H
theorem x_iK {R : It → Hp → Prop} (h : te σ H fun x H1 => RunK R x H1) : iKeys te σ H R := h
theorem x_iV {R : It → Hp → Prop} (h : te σ H fun x H1 => RunV R x H1) : iVals te σ H R := h
theorem x_iI {R : It → Hp → Prop} (h : te σ H fun x H1 => RunI R x H1) : iItems te σ H R := h
theorem x_iL {R : It → Hp → Prop} (h : te σ H fun x H1 => RunL K R x H1) : iList K te σ H R := h
theorem x_iT {R : It → Hp → Prop} (h : te σ H fun x H1 => RunT K R x H1) : iTup K te σ H R := h
theorem x_iS {R : It → Hp → Prop} (h : te σ H fun x H1 => RunS R x H1) : iStr te σ H R := h
theorem x_iR {R : It → Hp → Prop} (h : al σ H fun x H1 => RunR R x H1) : iRng1 al σ H R := h
theorem runK {R : It → Hp → Prop} {o : Obj} {kvs : List (Key × V)} (h : H p = some (.frz o (.dK kvs))) (q : R (Itk p o kvs) H) : RunK R (.ref p) H := ⟨p, o, rfl, .inl ⟨kvs, h, q⟩⟩
theorem runV {R : It → Hp → Prop} {o : Obj} {kvs : List (Key × V)} (h : H p = some (.frz o (.dK kvs))) (q : R (Itd p o kvs) H) : RunV R (.ref p) H := ⟨p, o, kvs, rfl, h, q⟩
theorem runI {R : It → Hp → Prop} {o : Obj} {kvs : List (Key × V)} (h : H p = some (.frz o (.dK kvs))) (q : R (Iti p o kvs) H) : RunI R (.ref p) H := ⟨p, o, kvs, rfl, h, q⟩
theorem runL {R : It → Hp → Prop} {xs : List V} (h : SqL K H p xs) (q : R (Itl K p) H) : RunL K R (.ref p) H := ⟨p, rfl, ⟨xs, h⟩, q⟩
theorem runT {R : It → Hp → Prop} {xs : List V} (h : SqT K H p xs) (q : R (Itt K p) H) : RunT K R (.ref p) H := ⟨p, rfl, ⟨xs, h⟩, q⟩
theorem runR {R : It → Hp → Prop} {j : Int} (h : -(2 ^ 62) ≤ j ∧ j < 2 ^ 62) (q : R (Itr 0 j.toNat) H) : RunR R [.int j] H := ⟨j, rfl, h.1, h.2, q⟩
theorem lc_by {J : It} {m : Nat} {G : Hp → Prop} {Y : Nat → Hp → V → Hp → Prop} (w : L2.Walk J m G Y) (Pv : Nat → Hp → Prop) (h0 : Pv 0 (upd H D (.lst []))) (hG : ∀ i H, i ≤ m → Pv i H → G H)
    (hs : ∀ i x H H', i < m → Pv i H → Y i H x H' → g x (wipe σ vs) H' fun σ2 H2 => wipe σ2 vs = wipe σ vs ∧ tt σ2 H2 fun b H3 =>
      if b = true then te σ2 H3 fun y H4 => ∃ acc, H4 D = some (.lst acc) ∧ acc.length < sizeLine ∧ Pv (i + 1) (upd H4 D (.lst (acc ++ [y]))) else Pv (i + 1) H3) (hd : ∀ H, Pv m H → Qd H) : LcP J g tt te vs σ D Qd H := L2.lc_it w Pv h0 hG hs hd
theorem dc_by {J : It} {m : Nat} {G : Hp → Prop} {Y : Nat → Hp → V → Hp → Prop} (w : L2.Walk J m G Y) (Pv : Nat → Hp → Prop) (h0 : Pv 0 (upd H D (.dK []))) (hG : ∀ i H, i ≤ m → Pv i H → G H)
    (hs : ∀ i x H H', i < m → Pv i H → Y i H x H' → g x (wipe σ vs) H' fun σ2 H2 => wipe σ2 vs = wipe σ vs ∧ tt σ2 H2 fun b H3 =>
      if b = true then tk σ2 H3 fun y H4 => tv σ2 H4 fun z H5 => ∃ kvs k, y = kV k ∧ H5 D = some (.dK kvs) ∧ kvs.length < sizeLine ∧ Pv (i + 1) (upd H5 D (.dK (putK kvs k z))) else Pv (i + 1) H3) (hd : ∀ H, Pv m H → Qd H) : DcP J g tt tk tv vs σ D Qd H := by
  refine ⟨fun i k H => k = m - i ∧ i ≤ m ∧ Pv i H, ⟨m, by simp, Nat.zero_le _, h0⟩, ?_⟩
  rintro i k H ⟨rfl, hi, hp⟩
  have q := hG i H hi hp
  by_cases hlt : i < m
  · exact .inr ⟨w.goes i H hlt q, Pv (i + 1), fun H' p' => ⟨m - (i + 1), by omega, rfl, hlt, p'⟩, fun x H' y => hs i x H H' hlt hp (w.yields i H x H' hlt q y)⟩
  · have e : i = m := by omega
    subst e
    exact .inl ⟨w.stops H q, hd H hp⟩
theorem lcK {o : Obj} {kvs : List (Key × V)} (Pv : Nat → Hp → Prop) (h0 : Pv 0 (upd H D (.lst []))) (hG : ∀ i H, i ≤ kvs.length → Pv i H → H p = some (.frz o (.dK kvs)))
    (hs : ∀ i k v H, kvs[i]? = some (k, v) → Pv i H → g (kV k) (wipe σ vs) H fun σ2 H2 => wipe σ2 vs = wipe σ vs ∧ tt σ2 H2 fun b H3 =>
      if b = true then te σ2 H3 fun y H4 => ∃ acc, H4 D = some (.lst acc) ∧ acc.length < sizeLine ∧ Pv (i + 1) (upd H4 D (.lst (acc ++ [y]))) else Pv (i + 1) H3) (hd : ∀ H, Pv kvs.length H → Qd H) : LcP (Itk p o kvs) g tt te vs σ D Qd H :=
  lc_by walk_keys Pv h0 hG (fun i x H H' _ hp y => by obtain ⟨rfl, k, v, e, rfl⟩ := y; exact hs i k v _ e hp) hd
theorem lcL {xs : List V} (Pv : Nat → Hp → Prop) (h0 : Pv 0 (upd H D (.lst []))) (hG : ∀ i H, i ≤ xs.length → Pv i H → SqL K H p xs)
    (hs : ∀ i x H, xs[i]? = some x → Pv i H → g x (wipe σ vs) H fun σ2 H2 => wipe σ2 vs = wipe σ vs ∧ tt σ2 H2 fun b H3 =>
      if b = true then te σ2 H3 fun y H4 => ∃ acc, H4 D = some (.lst acc) ∧ acc.length < sizeLine ∧ Pv (i + 1) (upd H4 D (.lst (acc ++ [y]))) else Pv (i + 1) H3) (hd : ∀ H, Pv xs.length H → Qd H) : LcP (Itl K p) g tt te vs σ D Qd H :=
  lc_by walk_list Pv h0 hG (fun i x H H' _ hp y => by obtain ⟨rfl, e⟩ := y; exact hs i x _ e hp) hd
theorem lcT {xs : List V} (Pv : Nat → Hp → Prop) (h0 : Pv 0 (upd H D (.lst []))) (hG : ∀ i H, i ≤ xs.length → Pv i H → SqT K H p xs)
    (hs : ∀ i x H, xs[i]? = some x → Pv i H → g x (wipe σ vs) H fun σ2 H2 => wipe σ2 vs = wipe σ vs ∧ tt σ2 H2 fun b H3 =>
      if b = true then te σ2 H3 fun y H4 => ∃ acc, H4 D = some (.lst acc) ∧ acc.length < sizeLine ∧ Pv (i + 1) (upd H4 D (.lst (acc ++ [y]))) else Pv (i + 1) H3) (hd : ∀ H, Pv xs.length H → Qd H) : LcP (Itt K p) g tt te vs σ D Qd H :=
  lc_by walk_tup Pv h0 hG (fun i x H H' _ hp y => by obtain ⟨rfl, e⟩ := y; exact hs i x _ e hp) hd
theorem dcK {o : Obj} {kvs : List (Key × V)} (Pv : Nat → Hp → Prop) (h0 : Pv 0 (upd H D (.dK []))) (hG : ∀ i H, i ≤ kvs.length → Pv i H → H p = some (.frz o (.dK kvs)))
    (hs : ∀ i k v H, kvs[i]? = some (k, v) → Pv i H → g (kV k) (wipe σ vs) H fun σ2 H2 => wipe σ2 vs = wipe σ vs ∧ tt σ2 H2 fun b H3 =>
      if b = true then tk σ2 H3 fun y H4 => tv σ2 H4 fun z H5 => ∃ kvs k, y = kV k ∧ H5 D = some (.dK kvs) ∧ kvs.length < sizeLine ∧ Pv (i + 1) (upd H5 D (.dK (putK kvs k z))) else Pv (i + 1) H3) (hd : ∀ H, Pv kvs.length H → Qd H) : DcP (Itk p o kvs) g tt tk tv vs σ D Qd H :=
  dc_by walk_keys Pv h0 hG (fun i x H H' _ hp y => by obtain ⟨rfl, k, v, e, rfl⟩ := y; exact hs i k v _ e hp) hd
theorem dcL {xs : List V} (Pv : Nat → Hp → Prop) (h0 : Pv 0 (upd H D (.dK []))) (hG : ∀ i H, i ≤ xs.length → Pv i H → SqL K H p xs)
    (hs : ∀ i x H, xs[i]? = some x → Pv i H → g x (wipe σ vs) H fun σ2 H2 => wipe σ2 vs = wipe σ vs ∧ tt σ2 H2 fun b H3 =>
      if b = true then tk σ2 H3 fun y H4 => tv σ2 H4 fun z H5 => ∃ kvs k, y = kV k ∧ H5 D = some (.dK kvs) ∧ kvs.length < sizeLine ∧ Pv (i + 1) (upd H5 D (.dK (putK kvs k z))) else Pv (i + 1) H3) (hd : ∀ H, Pv xs.length H → Qd H) : DcP (Itl K p) g tt tk tv vs σ D Qd H :=
  dc_by walk_list Pv h0 hG (fun i x H H' _ hp y => by obtain ⟨rfl, e⟩ := y; exact hs i x _ e hp) hd
theorem dcI {o : Obj} {kvs : List (Key × V)} (Pv : Nat → Hp → Prop) (h0 : Pv 0 (upd H D (.dK []))) (hG : ∀ i H, i ≤ kvs.length → Pv i H → H p = some (.frz o (.dK kvs)))
    (hs : ∀ i k v H T, kvs[i]? = some (k, v) → Pv i H → H T = none → g (.ref T) (wipe σ vs) (upd H T (.tup [kV k, v])) fun σ2 H2 => wipe σ2 vs = wipe σ vs ∧ tt σ2 H2 fun b H3 =>
      if b = true then tk σ2 H3 fun y H4 => tv σ2 H4 fun z H5 => ∃ kvs k, y = kV k ∧ H5 D = some (.dK kvs) ∧ kvs.length < sizeLine ∧ Pv (i + 1) (upd H5 D (.dK (putK kvs k z))) else Pv (i + 1) H3) (hd : ∀ H, Pv kvs.length H → Qd H) : DcP (Iti p o kvs) g tt tk tv vs σ D Qd H :=
  dc_by walk_items Pv h0 hG (fun i x H H' _ hp y => by
    obtain ⟨T, k, v, rfl, hT, rfl, e1, e2⟩ := y
    dsimp only at e1 e2
    cases e : kvs[i]? with
    | none => rw [e] at e1; cases e1
    | some kv =>
      rw [e] at e1 e2
      have e3 : kV kv.1 = k := Option.some.inj e1
      have e4 : kv.2 = v := Option.some.inj e2
      subst e3 e4
      exact hs i kv.1 kv.2 _ T e hp hT) hd
/-- a dict is held while it is walked -/
theorem x_lock {d : Addr} {u : HO} (h : H d = some u) (hm : Mut (some u)) (q : ∀ od, t ⟨fun σ' H' => H' d = some (.frz od u) ∧ n σ' (upd H' d u), fun v H' => H' d = some (.frz od u) ∧ r v (upd H' d u), fun σ' H' => H' d = some (.frz od u) ∧ b σ' (upd H' d u), fun σ' H' => H' d = some (.frz od u) ∧ c σ' (upd H' d u)⟩ σ (upd H d (.frz od u))) :
    tLock t ⟨n, r, b, c⟩ σ H := ⟨d, u, h, hm, q⟩
theorem x_lockE {d : Addr} {u : HO} (h : H d = some u) (hm : Mut (some u)) (q : ∀ od, te σ (upd H d (.frz od u)) fun v H' => H' d = some (.frz od u) ∧ Q v (upd H' d u)) : tLockE te σ H Q := ⟨d, u, h, hm, q⟩
/-! ### dicts -/
def rGetA (x y : V) (H : Hp) (Q : VK) : Prop := ∃ a v, x = .ref a ∧ DGet H a y (some v) ∧ Q v H
def rDinA (y x : V) (H : Hp) (Q : VK) : Prop := ∃ a o, x = .ref a ∧ DGet H a y o ∧ Q (.bl o.isSome) H
def rDninA (y x : V) (H : Hp) (Q : VK) : Prop := ∃ a o, x = .ref a ∧ DGet H a y o ∧ Q (.bl (!o.isSome)) H
def rDputA (x y v : V) (H : Hp) (N : Hp → Prop) : Prop := ∃ a H4, x = .ref a ∧ DPut H a y v H4 ∧ N H4
variable {td ty : TE} {x y v : V}
theorem x_dget (h : td σ H fun x H1 => ty σ H1 fun y H2 => rGetA x y H2 Q) : tDGet td ty σ H Q := h
theorem x_din (h : ty σ H fun y H1 => td σ H1 fun x H2 => rDinA y x H2 Q) : tDIn ty td σ H Q := h
theorem x_dnin (h : ty σ H fun y H1 => td σ H1 fun x H2 => rDninA y x H2 Q) : tDNotIn ty td σ H Q := h
theorem x_dput (h : tv σ H fun v H1 => td σ H1 fun x H2 => ty σ H2 fun y H3 => rDputA x y v H3 fun H4 => n σ H4) : sDPut td ty tv ⟨n, r, b, c⟩ σ H := h
theorem x_getS {kvs : List (Key × V)} {z : Str} (h : Rd H p (.dK kvs)) (e : valV kvs (Sum.inr z : Key) = some v) (q : Q v H) : rGetA (.ref p) (.str z) H Q := ⟨p, v, rfl, .inl ⟨kvs, Sum.inr z, h, rfl, e.symm⟩, q⟩
theorem x_dinS {kvs : List (Key × V)} {z : Str} (h : Rd H p (.dK kvs)) (q : Q (.bl (valV kvs (Sum.inr z : Key)).isSome) H) : rDinA (.str z) (.ref p) H Q := ⟨p, _, rfl, .inl ⟨kvs, Sum.inr z, h, rfl, rfl⟩, q⟩
theorem x_dninS {kvs : List (Key × V)} {z : Str} (h : Rd H p (.dK kvs)) (q : Q (.bl (!(valV kvs (Sum.inr z : Key)).isSome)) H) : rDninA (.str z) (.ref p) H Q := ⟨p, _, rfl, .inl ⟨kvs, Sum.inr z, h, rfl, rfl⟩, q⟩
theorem x_putS {kvs : List (Key × V)} {z : Str} {N : Hp → Prop} (h : H p = some (.dK kvs)) (hl : kvs.length < sizeLine) (q : N (upd H p (.dK (putK kvs (Sum.inr z : Key) v)))) : rDputA (.ref p) (.str z) v H N :=
  ⟨p, _, rfl, .inl ⟨kvs, Sum.inr z, h, rfl, hl, rfl⟩, q⟩
theorem x_newK (h : ∀ p, H p = none → Q (.ref p) (upd H p (.dK []))) : tDNewK σ H Q := h
end
end Ox
namespace Ox
open PySem PySem.Spec PyProof.Rows L2
theorem valV_at {kvs : List (Key × V)} (hn : (kvs.map (·.1)).Nodup) {i : Nat} {k : Key} {v : V} (h : kvs[i]? = some (k, v)) : valV kvs k = some v := by
  induction kvs generalizing i with
  | nil => cases h
  | cons p r ih =>
    have hn2 : (p.1 :: r.map (·.1)).Nodup := hn
    obtain ⟨h1, h2⟩ := List.nodup_cons.mp hn2
    unfold valV
    rw [List.find?_cons]
    cases i with
    | zero =>
      have e : p = (k, v) := Option.some.inj h
      subst e
      simp
    | succ i =>
      have h3 : r[i]? = some (k, v) := h
      have ne : ¬ p.1 = k := fun e => h1 (by rw [e]; exact List.mem_map.mpr ⟨(k, v), List.mem_of_getElem? h3, rfl⟩)
      rw [decide_eq_false ne]
      exact ih h2 h3
theorem valV_mem {kvs : List (Key × V)} {k : Key} {v : V} (h : valV kvs k = some v) : (k, v) ∈ kvs := by
  unfold valV at h
  cases e : kvs.find? (fun kv => decide (kv.1 = k)) with
  | none => rw [e] at h; cases h
  | some p =>
    rw [e] at h
    have h1 : p.2 = v := Option.some.inj h
    have h2 := List.find?_some e
    have h3 : p.1 = k := of_decide_eq_true h2
    rw [← h1, ← h3]
    exact List.mem_of_find?_eq_some e
/-- a dict with text keys -/
abbrev strK {α : Type} (f : α → V) (l : List (Str × α)) : List (Key × V) := l.map fun p => (Sum.inr p.1, f p.2)
theorem strK_at {α : Type} {f : α → V} {l : List (Str × α)} {i : Nat} {k : Key} {v : V} (h : (strK f l)[i]? = some (k, v)) : ∃ z x, k = Sum.inr z ∧ v = f x ∧ l[i]? = some (z, x) := by
  rw [List.getElem?_map] at h
  cases e : l[i]? with
  | none => rw [e] at h; cases h
  | some p =>
    rw [e] at h
    have e1 : ((Sum.inr p.1 : Key), f p.2) = (k, v) := Option.some.inj h
    injection e1 with e2 e3
    exact ⟨p.1, p.2, e2.symm, e3.symm, rfl⟩
theorem strK_nd {α : Type} {f : α → V} {l : List (Str × α)} (h : (l.map (·.1)).Nodup) : ((strK f l).map (·.1)).Nodup := by
  rw [List.map_map]
  have e : ((fun x : Key × V => x.1) ∘ fun p : Str × α => ((Sum.inr p.1 : Key), f p.2)) = (fun p : Str × α => (Sum.inr p.1 : Key)) := rfl
  rw [e]
  have e2 : l.map (fun p : Str × α => (Sum.inr p.1 : Key)) = (l.map (·.1)).map Sum.inr := by rw [List.map_map]; rfl
  rw [e2]
  exact List.pairwise_map.mpr (List.Pairwise.imp (fun {a b} hab e => hab (Sum.inr.inj e)) h)
theorem strK_val {α : Type} {f : α → V} {l : List (Str × α)} (h : (l.map (·.1)).Nodup) {i : Nat} {z : Str} {x : α} (e : l[i]? = some (z, x)) : valV (strK f l) (Sum.inr z : Key) = some (f x) :=
  valV_at (strK_nd h) (i := i) (by rw [List.getElem?_map, e]; rfl)
theorem strK_get {α : Type} {f : α → V} {l : List (Str × α)} {z : Str} {v : V} (h : valV (strK f l) (Sum.inr z : Key) = some v) : ∃ x, v = f x ∧ (z, x) ∈ l := by
  obtain ⟨p, hp, e⟩ := List.mem_map.mp (valV_mem h)
  injection e with e1 e2
  injection e1 with e3
  exact ⟨p.2, e2.symm, by rw [← e3]; exact hp⟩
theorem take_succ_get {α : Type} {l : List α} {i : Nat} {x : α} (h : l[i]? = some x) : l.take (i + 1) = l.take i ++ [x] := by
  rw [List.take_succ, h]
  rfl
end Ox
namespace Ox
open PySem PySem.Spec PyProof.Rows L2
/-- sorted(d), d a dict with text keys -/
def rSortDA : List V → Hp → VK → Prop := fun xs H Q => ∃ (a : Addr) (kvs : List (Key × V)) (ks : List Str), xs = [.ref a] ∧ Rd H a (.dK kvs) ∧ kvs.map (·.1) = ks.map Sum.inr ∧ ks.length < 64 ∧
  ∀ ys p, ys.Perm ks → sortedS ys = true → H p = none → Q (.ref p) (upd H p (.lst (ys.map V.str)))
theorem call_sortedDA {X : Cx} (hc : X.calm = true) : CallR X (.builtin "sorted") rSortDA := call_sortedD hc
theorem lt_one (a b : Nat) : (([a] : List Nat) < [b]) ↔ a < b := by
  rw [List.cons_lt_cons_iff]
  simp
section
variable {H : Hp} {Q : VK} {d : Nat} {s : Str}
theorem x_leL (c : Nat) (e : s = ⟨#[c]⟩) (q : Q (.bl (decide (c ≤ d))) H) : rStr2 (fun i j => !decide (j.cps.toList < i.cps.toList)) (.str s) (.str ⟨#[d]⟩) H Q := by
  subst e
  refine ⟨_, _, rfl, rfl, ?_⟩
  have h : (!decide ((⟨#[d]⟩ : Str).cps.toList < (⟨#[c]⟩ : Str).cps.toList)) = decide (c ≤ d) := by
    show (!decide ([d] < [c])) = _
    rw [show decide (([d] : List Nat) < [c]) = decide (d < c) from decide_eq_decide.mpr (lt_one d c)]
    by_cases z : d < c
    · have : ¬ c ≤ d := by omega
      simp [z, this]
    · have : c ≤ d := by omega
      simp [z, this]
  dsimp only
  rw [h]
  exact q
theorem x_leR (c : Nat) (e : s = ⟨#[c]⟩) (q : Q (.bl (decide (d ≤ c))) H) : rStr2 (fun i j => !decide (j.cps.toList < i.cps.toList)) (.str ⟨#[d]⟩) (.str s) H Q := by
  subst e
  refine ⟨_, _, rfl, rfl, ?_⟩
  have h : (!decide ((⟨#[c]⟩ : Str).cps.toList < (⟨#[d]⟩ : Str).cps.toList)) = decide (d ≤ c) := by
    show (!decide ([c] < [d])) = _
    rw [show decide (([c] : List Nat) < [d]) = decide (c < d) from decide_eq_decide.mpr (lt_one c d)]
    by_cases z : c < d
    · have : ¬ d ≤ c := by omega
      simp [z, this]
    · have : d ≤ c := by omega
      simp [z, this]
  dsimp only
  rw [h]
  exact q
end
theorem chr_a : ("a" : Str) = ⟨#[97]⟩ := by decide +kernel
theorem chr_z : ("z" : Str) = ⟨#[122]⟩ := by decide +kernel
theorem chr_0 : ("0" : Str) = ⟨#[48]⟩ := by decide +kernel
theorem chr_9 : ("9" : Str) = ⟨#[57]⟩ := by decide +kernel
end Ox
namespace Ox
open PySem PySem.Spec PyProof.Rows L2
/-! ### dicts with text keys as association lists -/
theorem strK_look {α : Type} {f : α → V} (l : List (Str × α)) (z : Str) : valV (strK f l) (Sum.inr z : Key) = (l.lookup z).map f := by
  induction l with
  | nil => rfl
  | cons p r ih =>
    show valV ((Sum.inr p.1, f p.2) :: strK f r) (Sum.inr z : Key) = _
    unfold valV
    rw [List.find?_cons, List.lookup_cons]
    by_cases e : p.1 = z
    · subst e
      simp
    · have e1 : ¬ (Sum.inr p.1 : Key) = Sum.inr z := fun q => e (Sum.inr.inj q)
      have e2 : (z == p.1) = false := by simpa using fun q : z = p.1 => e q.symm
      rw [decide_eq_false e1, e2]
      exact ih
/-- a store -/
def putL {α : Type} (l : List (Str × α)) (z : Str) (x : α) : List (Str × α) := if z ∈ l.map (·.1) then l.map (fun p => if p.1 = z then (p.1, x) else p) else l ++ [(z, x)]
theorem putL_new {α : Type} {l : List (Str × α)} {z : Str} (x : α) (h : z ∉ l.map (·.1)) : putL l z x = l ++ [(z, x)] := by
  unfold putL
  rw [if_neg h]
theorem putL_keys {α : Type} {l : List (Str × α)} {z : Str} (x : α) (h : z ∈ l.map (·.1)) : (putL l z x).map (·.1) = l.map (·.1) := by
  unfold putL
  rw [if_pos h, List.map_map]
  refine List.map_congr_left fun p _ => ?_
  show (if p.1 = z then (p.1, x) else p).1 = p.1
  split <;> rfl
theorem putL_nd {α : Type} {l : List (Str × α)} {z : Str} (x : α) (h : (l.map (·.1)).Nodup) : ((putL l z x).map (·.1)).Nodup := by
  by_cases e : z ∈ l.map (·.1)
  · rw [putL_keys x e]
    exact h
  · rw [putL_new x e, List.map_append]
    exact List.nodup_append.mpr ⟨h, by simp, fun a ha b hb q => by
      rw [List.map_cons, List.map_nil, List.mem_singleton] at hb
      rw [q, hb] at ha
      exact e ha⟩
theorem putL_len {α : Type} (l : List (Str × α)) (z : Str) (x : α) : (putL l z x).length ≤ l.length + 1 := by
  unfold putL
  split <;> simp
theorem putL_mem {α : Type} {l : List (Str × α)} {z : Str} {x : α} {p : Str × α} (h : p ∈ putL l z x) : p = (z, x) ∨ (p ∈ l ∧ p.1 ≠ z) := by
  unfold putL at h
  by_cases e : z ∈ l.map (·.1)
  · rw [if_pos e] at h
    obtain ⟨q, hq, e2⟩ := List.mem_map.mp h
    by_cases eq : q.1 = z
    · rw [if_pos eq, eq] at e2
      exact .inl e2.symm
    · rw [if_neg eq] at e2
      rw [← e2]
      exact .inr ⟨hq, eq⟩
  · rw [if_neg e] at h
    rcases List.mem_append.mp h with h | h
    · exact .inr ⟨h, fun q => e (by rw [← q]; exact List.mem_map.mpr ⟨p, h, rfl⟩)⟩
    · exact .inl (List.mem_singleton.mp h)
theorem strK_put {α : Type} {f : α → V} (l : List (Str × α)) (z : Str) (x : α) : putK (strK f l) (Sum.inr z : Key) (f x) = strK f (putL l z x) := by
  have ha : ((strK f l).any fun kv => decide (kv.1 = (Sum.inr z : Key))) = decide (z ∈ l.map (·.1)) := by
    induction l with
    | nil => rfl
    | cons p r ih =>
      show ((decide ((Sum.inr p.1 : Key) = Sum.inr z)) || ((strK f r).any fun kv => decide (kv.1 = (Sum.inr z : Key)))) = decide (z ∈ p.1 :: r.map (·.1))
      rw [ih]
      by_cases e : p.1 = z
      · simp [e]
      · have e2 : ¬ z = p.1 := fun q => e q.symm
        simp [e, e2]
  unfold putK putL
  rw [ha]
  by_cases e : z ∈ l.map (·.1)
  · rw [if_pos (decide_eq_true e), if_pos e]
    show (List.map _ (List.map _ l)) = List.map _ (List.map _ l)
    rw [List.map_map, List.map_map]
    refine List.map_congr_left fun p _ => ?_
    show (if (Sum.inr p.1 : Key) = Sum.inr z then ((Sum.inr p.1 : Key), f x) else (Sum.inr p.1, f p.2)) = ((Sum.inr (if p.1 = z then (p.1, x) else p).1 : Key), f (if p.1 = z then (p.1, x) else p).2)
    by_cases h : p.1 = z
    · rw [if_pos h, if_pos (by rw [h])]
    · rw [if_neg h, if_neg (fun q => h (Sum.inr.inj q))]
  · rw [if_neg (by simp only [decide_eq_true_eq]; exact e), if_neg e]
    exact (List.map_append (l₁ := l) (l₂ := [(z, x)]) (f := fun p : Str × α => ((Sum.inr p.1 : Key), f p.2))).symm
theorem lookup_mem {α : Type} {l : List (Str × α)} {z : Str} {x : α} (h : l.lookup z = some x) : (z, x) ∈ l := by
  induction l with
  | nil => cases h
  | cons p r ih =>
    rw [List.lookup_cons] at h
    by_cases e : z = p.1
    · subst e
      rw [beq_self_eq_true] at h
      cases h
      exact List.mem_cons_self
    · have e2 : (z == p.1) = false := by simpa using e
      rw [e2] at h
      exact List.mem_cons_of_mem _ (ih h)
theorem lookup_of {α : Type} {l : List (Str × α)} (hn : (l.map (·.1)).Nodup) {z : Str} {x : α} (h : (z, x) ∈ l) : l.lookup z = some x := by
  induction l with
  | nil => cases h
  | cons p r ih =>
    obtain ⟨h1, h2⟩ := List.nodup_cons.mp (show (p.1 :: r.map (·.1)).Nodup from hn)
    rw [List.lookup_cons]
    rcases List.mem_cons.mp h with e | h
    · rw [← e]
      simp
    · have ne : ¬ z = p.1 := fun q => h1 (by rw [← q]; exact List.mem_map.mpr ⟨(z, x), h, rfl⟩)
      have e2 : (z == p.1) = false := by simpa using ne
      rw [e2]
      exact ih h2 h
theorem lookup_isSome {α : Type} {l : List (Str × α)} {z : Str} (h : z ∈ l.map (·.1)) : ∃ x, l.lookup z = some x := by
  induction l with
  | nil => cases h
  | cons p r ih =>
    rw [List.lookup_cons]
    by_cases e : z = p.1
    · subst e
      exact ⟨p.2, by simp⟩
    · have e2 : (z == p.1) = false := by simpa using e
      rw [e2]
      exact ih ((List.mem_cons.mp h).resolve_left e)
theorem lookup_none {α : Type} {l : List (Str × α)} {z : Str} (h : z ∉ l.map (·.1)) : l.lookup z = none := by
  cases e : l.lookup z with
  | none => rfl
  | some x => exact absurd (List.mem_map.mpr ⟨_, lookup_mem e, rfl⟩) h
theorem lookup_perm {α : Type} {l l' : List (Str × α)} (hp : l'.Perm l) (hn : (l.map (·.1)).Nodup) (z : Str) : l'.lookup z = l.lookup z := by
  have hn' : (l'.map (·.1)).Nodup := (List.Perm.nodup_iff (hp.map _)).mpr hn
  cases e : l.lookup z with
  | some x => exact lookup_of hn' (hp.mem_iff.mpr (lookup_mem e))
  | none =>
    cases e2 : l'.lookup z with
    | none => rfl
    | some x =>
      have := lookup_of hn (hp.mem_iff.mp (lookup_mem e2))
      rw [e] at this
      cases this
/-- the same table, its keys in another order -/
theorem table_perm {α : Type} {l : List (Str × α)} {ys : List Str} (hn : (l.map (·.1)).Nodup) (hp : ys.Perm (l.map (·.1))) (d : α) : (ys.map fun z => (z, (l.lookup z).getD d)).Perm l := by
  have h1 := hp.map fun z => (z, (l.lookup z).getD d)
  have h2 : (l.map (·.1)).map (fun z => (z, (l.lookup z).getD d)) = l := by
    rw [List.map_map]
    conv => rhs; rw [← List.map_id l]
    refine List.map_congr_left fun p hp => ?_
    show (p.1, (l.lookup p.1).getD d) = p
    rw [lookup_of hn (z := p.1) (x := p.2) hp]
    rfl
  rw [h2] at h1
  exact h1
section
variable {σ : L2.St} {H : Hp} {n : L2.St → Hp → Prop} {r : VK} {b c : L2.St → Hp → Prop} {ta tv : TE} {K : PySem.W.Frag}
def rSfA (K : PySem.W.Frag) (f : Str) (x y : V) (H : Hp) (N : Hp → Prop) : Prop := ∃ a C dx fs, x = .ref a ∧ H a = some (.ins C dx fs) ∧ Cls K C ∧ NoAttr K C f ∧ fs.length < 1000 ∧ N (upd H a (.ins C dx (putF f y fs)))
theorem x_sfld {f : Str} (h : tv σ H fun y H1 => ta σ H1 fun x H2 => rSfA K f x y H2 fun H3 => n σ H3) : sFld K ta tv f ⟨n, r, b, c⟩ σ H := h
theorem x_sf {a C dx : Addr} {fs : List (Str × V)} {f : Str} {y : V} {N : Hp → Prop} (hc : Cls K C) (hn : NoAttr K C f) (h : H a = some (.ins C dx fs)) (hl : fs.length < 1000) (q : N (upd H a (.ins C dx (putF f y fs)))) : rSfA K f (.ref a) y H N :=
  ⟨a, C, dx, fs, rfl, h, hc, hn, hl, q⟩
end
end Ox
namespace Ox
open PySem PySem.Spec PyProof.Rows L2
/-! ### rules with the written part told by a letter (for a comprehension's block) -/
section
variable {X : Cx} {K : PySem.W.Frag}
theorem ix_listK (e : X.K = K := by rfl) : IxR X (rIxL K) := e ▸ ix_list
theorem ix_tupK (e : X.K = K := by rfl) : IxR X (rIxT K) := e ▸ ix_tup
theorem call_lenAK (e : X.K = K := by rfl) : CallR X (.builtin "len") (rLenA K) := e ▸ call_lenA
theorem op_in_seqK (e : X.K = K := by rfl) : OpR X (compareOp .In) (rIn K false) := e ▸ op_in_seq
theorem op_notIn_seqK (e : X.K = K := by rfl) : OpR X (compareOp .NotIn) (rIn K true) := e ▸ op_notIn_seq
theorem call_isiK (e : X.K = K := by rfl) : CallR X (.builtin "isinstance") (rIsi K) := e ▸ call_isi
theorem call_listAK (e : X.K = K := by rfl) : CallR X (.type "list") (rListA K) := e ▸ call_listA
theorem call_tupleAK (e : X.K = K := by rfl) : CallR X (.type "tuple") (rTupleA K) := e ▸ call_tupleA
theorem sl_listK (e : X.K = K := by rfl) : SlR X (rSlL K) := e ▸ sl_list
theorem pe_fldK {o : Expr} {f : Str} {pos : Pos} {ta : TE} (he : PE X o ta) (hb : attributeBase o f X.env (eval o X.env) = eval o X.env) (e : X.K = K := by rfl) : PE X (.Attribute o f pos) (tFld K ta f) := e ▸ pe_fld he hb
end
end Ox
namespace Ox
open PySem PySem.Spec PyProof.Rows L2
theorem pg_tupK {X : Cx} {K : PySem.W.Frag} {es : List Expr} {k : Nat} {pos : Pos} {t : TGs} {n : Nat} (hc : X.calm = true) (h : PGs X es t) (hn : (assignEach es X.env).length = n := by rfl) (hst : (assignEach es X.env).findIdx? (·.1) = none := by rfl)
    (e : X.K = K := by rfl) : PG X (.Tuple es k pos) (gTup K n t) := e ▸ pg_tup hc h hn hst
end Ox
namespace Ox
open PySem PySem.Spec PyProof.Rows L2
theorem putL_old {α : Type} {l : List (Str × α)} {z : Str} (x : α) (h : z ∈ l.map (·.1)) : putL l z x = l.map fun p => if p.1 = z then (p.1, x) else p := by
  unfold putL
  rw [if_pos h]
theorem putL_putL {α : Type} (l : List (Str × α)) (z : Str) (a b : α) : putL (putL l z a) z b = putL l z b := by
  by_cases e : z ∈ l.map (·.1)
  · have e2 : z ∈ (putL l z a).map (·.1) := by rw [putL_keys a e]; exact e
    rw [putL_old b e2, putL_old b e, putL_old a e, List.map_map]
    refine List.map_congr_left fun p _ => ?_
    show (if (if p.1 = z then (p.1, a) else p).1 = z then ((if p.1 = z then (p.1, a) else p).1, b) else (if p.1 = z then (p.1, a) else p)) = _
    by_cases h : p.1 = z
    · simp [h]
    · simp [h]
  · have e2 : z ∈ (putL l z a).map (·.1) := by rw [putL_new a e]; simp
    rw [putL_old b e2, putL_new a e, putL_new b e, List.map_append]
    have h4 : (l.map fun p => if p.1 = z then (p.1, b) else p) = l := by
      conv => rhs; rw [← List.map_id l]
      refine List.map_congr_left fun p hp => ?_
      have : ¬ p.1 = z := fun q => e (by rw [← q]; exact List.mem_map.mpr ⟨p, hp, rfl⟩)
      rw [if_neg this]
      rfl
    rw [h4]
    simp
end Ox

/-! Own layer, second part: list(d.values()), kinds of values, own classes. -/
namespace Ox
open PySem PySem.Spec PyProof.Rows L2
/-! ### list(d.values()), list(d) -/
def rListVA (x : V) (H : Hp) (Q : VK) : Prop := ∃ (d : Addr) (kvs : List (Key × V)), x = .ref d ∧ Rd H d (.dK kvs) ∧ ∀ p, H p = none → Q (.ref p) (upd H p (.lst (kvs.map Prod.snd)))
def tListVA (te : TE) : TE := fun σ H Q => te σ H fun x H1 => rListVA x H1 Q
section
variable {X : Cx} {e : Expr} {te : TE} {p apos cpos pos : Pos}
theorem pe_listV (hc : X.calm = true) (he : PE X e te) (hg : Gl X "list") (hm : X.mg "list" = none) (hv : bootBuiltins "list" = some (.type "list") := by decide +kernel)
    (hbase : attributeBase e "values" X.env (eval e X.env) = eval e X.env := by rfl)
    (hline : (apos.endLine == cpos.line) = true := by rfl)
    (hs : starEach [.Call (.Attribute e "values" apos) [] [] cpos] X.env = (false, eval (.Call (.Attribute e "values" apos) [] [] cpos) X.env) :: starEach [] X.env := by rfl) :
    PE X (.Call (.Name "list" p) [.Call (.Attribute e "values" apos) [] [] cpos] [] pos) (tListVA te) := ⟨fun pins s σ H Q I hq => by
  refine wpAny_Call_Name_kw (ld_blt I hg hm hv (PyProof.Rows.callWith_type1 ?_ hs rfl))
  rw [hs]
  show wpAny _ _ (spliced ((false, eval (.Call (.Attribute e "values" apos) [] [] cpos) X.env) :: backTo pos (starEach [] X.env))) _ _ _
  refine Calls.spliced_cons (wpAny_Call_method (T := "dict") (id := "dict.values") hbase rfl hline F.plainAttrs_dict F.slot_dict_values F.type_dict_values ?_)
  refine thn (he.run pins s σ H _ I hq) fun u s1 ⟨x, H1, I1, rx, d, kvs, ex, hd, q⟩ => ?_
  subst ex
  obtain rfl : u = Value.ref d := rx
  obtain ⟨hz, hs0, ws, kv, hdo⟩ := (show ObjOk X.prog X.w H1 s1.heap d (.dK kvs) from hd.ok I1.hok)
  obtain ⟨ep, hat⟩ := hdo.dictAt
  have lk : kvs.length = ws.length := Paired.length kv
  have I2 : Inv X pins σ H1 { s1 with heap := s1.heap.push { cls := .type "dict_values", data := .fields #[.ref d] } } := I1.kept fun b ob q => Heap.get?_push_of_some _ q
  refine ⟨hdo.typeIs, hdo.mapOf.noDict, ?_⟩
  show wpAny _ _ (callWith cpos (.builtin "dict.values") [.ref d] [] []) _ X.xe s1
  refine method_meetsIn F.slot_dict_values F.entry_dict_values rfl (PySem.evalArgs_none ⟨rfl, hdo.typeIs, F.args_dict_values_1 _, _, meets_dict_values (mixKind X.prog X.w) d hs0, ⟨ws, hdo⟩, Calls.spliced_nil ?_⟩)
  refine PySem.W.kdl_call (PySem.W.kdl_values (knd := mixKind X.prog X.w) (kvs := ws) (ep := ep)) (I1.ok.hd hc) ⟨⟨_, Heap.get?_push_size _ rfl, rfl, rfl⟩, hat.push _⟩ (by omega) fun h' tk acc c hk hS hacc => ?_
  refine ⟨.ref _, upd H1 _ (.lst (kvs.map Prod.snd)), I2.laid hk (Nat.le_refl _) (show ObjOk X.prog X.w _ _ _ (.lst (kvs.map Prod.snd)) from ⟨by rw [List.length_map]; exact hz, acc.toList, c, ?_, by rw [Array.toArray_toList]; exact hS⟩), rfl, q _ (I2.hok.fresh (Nat.le_refl _))⟩
  have el : acc.toList.length = acc.size := by simp
  refine vals_of_at (by rw [List.length_map, el, hacc.1, lk]) fun j x w h1 h2 => ?_
  obtain ⟨k, hky⟩ := hacc.2 j w (by rw [← Array.getElem?_toList]; exact h2)
  rw [List.getElem?_map] at h1
  cases e2 : kvs[j]? with
  | none => rw [e2] at h1; cases h1
  | some kvj =>
    rw [e2] at h1
    have h3 : kvj.2 = x := Option.some.inj h1
    obtain ⟨y, hy, _, ry⟩ := LiI.paired_get kv e2
    rw [hky] at hy
    cases hy
    rw [← h3]
    exact ry⟩
end
theorem x_listV {σ : L2.St} {H : Hp} {Q : VK} {te : TE} (h : te σ H fun x H1 => rListVA x H1 Q) : tListVA te σ H Q := h
theorem x_listv {H : Hp} {Q : VK} {d : Addr} {kvs : List (Key × V)} (h : Rd H d (.dK kvs)) (q : ∀ p, H p = none → Q (.ref p) (upd H p (.lst (kvs.map Prod.snd)))) : rListVA (.ref d) H Q := ⟨d, kvs, rfl, h, q⟩
theorem x_listD {H : Hp} {Q : VK} {d : Addr} {kvs : List (Key × V)} (h : H d = some (.dK kvs)) (q : ∀ p, H p = none → Q (.ref p) (upd H p (.lst (kvs.map fun kv => kV kv.1)))) : rListD [.ref d] H Q := ⟨d, kvs, rfl, h, q⟩
/-! ### kinds of values -/
inductive Kn where
  | non | bl | int | str | lst | tup | dict
  deriving DecidableEq
def Kn.ty : Kn → String
  | .non => "NoneType" | .bl => "bool" | .int => "int" | .str => "str" | .lst => "list" | .tup => "tuple" | .dict => "dict"
/-- x is of the kind -/
inductive Kd (K : PySem.W.Frag) (H : Hp) : V → Kn → Prop where
  | non : Kd K H .non .non
  | bl (b : Bool) : Kd K H (.bl b) .bl
  | int (i : Int) : Kd K H (.int i) .int
  | str (z : Str) : Kd K H (.str z) .str
  | lst {a : Addr} {xs : List V} (h : SqL K H a xs) : Kd K H (.ref a) .lst
  | tup {a : Addr} {xs : List V} (h : SqT K H a xs) : Kd K H (.ref a) .tup
  | dict {a : Addr} {kvs : List (Key × V)} (h : Rd H a (.dK kvs)) : Kd K H (.ref a) .dict
theorem Kd.tyx {K : PySem.W.Frag} {H : Hp} {x : V} {k : Kn} (h : Kd K H x k) : TyX K H x (.type k.ty) := by
  cases h with
  | non => exact .base .non
  | bl b => exact .base (.bl b)
  | int i => exact .base (.int i)
  | str z => exact .base (.str z)
  | lst h =>
    rcases h with (h | ⟨o, h⟩) | ⟨o, its, n, h1, h2, _⟩
    · exact .base (.lst h)
    · exact .base (.frz h)
    · exact .kList h1 h2
  | tup h =>
    rcases h with (h | ⟨o, h⟩) | ⟨o, its, n, h1, h2, _⟩
    · exact .base (.tup h)
    · exact .fTuple h
    · exact .kTuple h1 h2
  | dict h =>
    rcases h with h | ⟨o, h⟩
    · exact .base (.dK h)
    · exact .fDict h
def isB : Kn → Kn → Bool
  | .non, .non => true | .bl, .bl => true | .bl, .int => true | .int, .int => true | .str, .str => true | .lst, .lst => true | .tup, .tup => true | .dict, .dict => true
  | _, _ => false
theorem kitB_is : ∀ k T : Kn, T ≠ .non → kitB k.ty T.ty = some (isB k T) := by
  intro k T hT
  cases T with
  | non => exact absurd rfl hT
  | _ => cases k <;> decide +kernel
section
variable {K : PySem.W.Frag} {H : Hp} {Q : VK} {x : V} {k : Kn}
theorem x_isi (T : Kn) (h : Kd K H x k) (q : Q (.bl (isB k T)) H) (hT : T ≠ .non := by decide) : rIsi K [x, .ty T.ty] H Q := ⟨x, _, _, _, _, rfl, .ty _, h.tyx, kit_ty (kitB_is k T hT), q⟩
theorem x_isiInt (h : Kd K H x k) (q : Q (.bl (isB k .int)) H) : rIsi K [x, .ty "int"] H Q := x_isi .int h q
theorem x_isiBool (h : Kd K H x k) (q : Q (.bl (isB k .bl)) H) : rIsi K [x, .ty "bool"] H Q := x_isi .bl h q
theorem x_isiStr (h : Kd K H x k) (q : Q (.bl (isB k .str)) H) : rIsi K [x, .ty "str"] H Q := x_isi .str h q
theorem x_isiList (h : Kd K H x k) (q : Q (.bl (isB k .lst)) H) : rIsi K [x, .ty "list"] H Q := x_isi .lst h q
theorem x_isiTup (h : Kd K H x k) (q : Q (.bl (isB k .tup)) H) : rIsi K [x, .ty "tuple"] H Q := x_isi .tup h q
theorem x_isiDict (h : Kd K H x k) (q : Q (.bl (isB k .dict)) H) : rIsi K [x, .ty "dict"] H Q := x_isi .dict h q
end
/-! ### own classes: isinstance -/
/-- the class at C: what isinstance asks of it -/
structure Isc (K : PySem.W.Frag) (C : Addr) : Prop where
  cl : Cls K C
  ha : PySem.W.findIn K (.ref C) "__class__" = some (some (.builtin "object.__class__"))
  hn : PySem.W.specialIn K (.builtin "object.__class__") "__get__" = some (some (.builtin "getset_descriptor.__get__"))
  ht : PySem.W.takesIn K (.builtin "object.__class__") = some true
  hm : PySem.W.mroIn K C (.type "object") = some true
theorem x_isiOwn {K : PySem.W.Frag} {H : Hp} {Q : VK} {a C D dx : Addr} {fs : List (Str × V)} {b : Bool} (i : Isc K C) (h : H a = some (.ins C dx fs)) (hk : PySem.W.kitOne K (.ref C) (.ref D) = some b) (q : Q (.bl b) H) : rIsi K [.ref a, .ref D] H Q :=
  ⟨_, _, _, _, _, rfl, .own D, .base (.ins h i.cl i.ha i.hn i.ht i.hm), hk, q⟩
def iscB (C : Str) : PySem.W.Frag → Bool := fun K => (He.Fa.cls C).ok K && (He.eqO (PySem.W.findIn K (.ref (He.ga K C)) "__class__") (some (some (.builtin "object.__class__"))) && (He.eqO (PySem.W.specialIn K (.builtin "object.__class__") "__get__") (some (some (.builtin "getset_descriptor.__get__"))) &&
  (decide (PySem.W.takesIn K (.builtin "object.__class__") = some true) && decide (PySem.W.mroIn K (He.ga K C) (.type "object") = some true))))
theorem iscB_ok {C : Str} {K : PySem.W.Frag} (h : iscB C K = true) : Isc K (He.ga K C) := by
  obtain ⟨h1, h⟩ := Bool.and_eq_true_iff.mp h
  obtain ⟨h2, h⟩ := Bool.and_eq_true_iff.mp h
  obtain ⟨h3, h⟩ := Bool.and_eq_true_iff.mp h
  obtain ⟨h4, h5⟩ := Bool.and_eq_true_iff.mp h
  exact ⟨He.cls_ok h1, He.eqO_ok h2, He.eqO_ok h3, of_decide_eq_true h4, of_decide_eq_true h5⟩
/-- kitOne between own classes, told as a fact -/
def kitF (C D : Str) (b : Bool) : PySem.W.Frag → Bool := fun K => decide (PySem.W.kitOne K (.ref (He.ga K C)) (.ref (He.ga K D)) = some b)
theorem kitF_ok {C D : Str} {b : Bool} {K : PySem.W.Frag} (h : kitF C D b K = true) : PySem.W.kitOne K (.ref (He.ga K C)) (.ref (He.ga K D)) = some b := of_decide_eq_true h
end Ox
namespace Ox
open PySem PySem.Spec PyProof.Rows L2
/-! ### == by an own __eq__, any answer -/
def rEqOwn (C : Addr) (sp : Sp) : R2 := fun x y H Q => ∃ a b dx dy fs gs, x = .ref a ∧ y = .ref b ∧ H a = some (.ins C dx fs) ∧ H b = some (.ins C dy gs) ∧ sp [.ref a, .ref b] H (fun v H' => ∃ k, v = .bl k ∧ Q (.bl k) H') E0
theorem op_eqOwn {X : Cx} {C : Addr} {k : Nat} {sp : Sp} {ps : List Str} (M : Met X.prog X.w X.K X.mg X.base C k "__eq__" ps sp) (hr : Room k X.A) : OpR X (compareOp .Eq) (rEqOwn C sp) := by
  obtain ⟨f, fd, mt, F, hb⟩ := M.ex
  intro pins s σ H x y u v Q I rx ry h
  obtain ⟨a, b, dx, dy, fs, gs, rfl, rfl, ha, hb2, hsp⟩ := h
  cases rx
  cases ry
  obtain ⟨mA, J, _⟩ := ins_get I.hok ha
  obtain ⟨mB, J2, _⟩ := ins_get I.hok hb2
  obtain ⟨od, J, _⟩ := J.look
  obtain ⟨od2, J2, _⟩ := J2.look
  obtain ⟨m, hF⟩ := I.fr
  show wpAny (model X.prog X.w) X.A (richCompare .Eq (.ref a) (.ref b)) (EP X pins σ Q) X.xe s
  refine PySem.W.cmp_K (op := .Eq) (tb := .ref C) hr.units0 hF I.ok.mod.kin J J2.type (by simp [PySem.W.notFirst]) mt.at_ mt.fn ?_
  have hl := F.len _ _ _ _ hsp
  have r2 : Vals [V.ref a, V.ref b] [Value.ref a, Value.ref b] := .cons rfl (.cons rfl .nil)
  refine wpAny_call (codeAny_mono (F.run X.A X.stack s H ⟨[.ref a, .ref b], []⟩ [.ref a, .ref b] [.ref a, .ref b] _ E0 hr I.env0 (by
    have := hb s [.ref a, .ref b] I.kIn (by simpa using hl)
    simpa using this) r2 hsp) fun r s' hq => ?_)
  cases r with
  | error e => exact hq.elim
  | ok fl =>
    cases fl with
    | ret w =>
      obtain ⟨z, H', I', rz, kk, ez, q⟩ := I.after hq
      subst ez
      cases rz
      exact ⟨.bl kk, H', I', rfl, q⟩
    | next => exact False.elim hq
    | brk => exact False.elim hq
    | cont => exact False.elim hq
theorem x_eqOwn {C : Addr} {sp : Sp} {H : Hp} {Q : VK} {a b dx dy : Addr} {fs gs : List (Str × V)} (ha : H a = some (.ins C dx fs)) (hb : H b = some (.ins C dy gs)) (h : sp [.ref a, .ref b] H (fun v H' => ∃ k, v = .bl k ∧ Q (.bl k) H') E0) : rEqOwn C sp (.ref a) (.ref b) H Q :=
  ⟨a, b, dx, dy, fs, gs, rfl, rfl, ha, hb, h⟩
end Ox
namespace Ox
open PySem PySem.Spec PyProof.Rows L2
theorem Kd.same {K : PySem.W.Frag} {H H' : Hp} {x : V} {k : Kn} (s : L2.Same H H') (h : Kd K H x k) : Kd K H' x k := by
  cases h with
  | non => exact .non
  | bl b => exact .bl b
  | int i => exact .int i
  | str z => exact .str z
  | lst h => exact .lst (s.seq h)
  | tup h => exact .tup (same_t s h)
  | dict h => exact .dict (same_rd s h)
/-- .. where one dict is held -/
theorem Kd.held {K : PySem.W.Frag} {H : Hp} {x : V} {k : Kn} {d : Addr} {o : Obj} {kvs : List (Key × V)} (hd : H d = some (.dK kvs)) (h : Kd K H x k) : Kd K (upd H d (.frz o (.dK kvs))) x k := by
  have rd : ∀ {a u}, Rd H a u → Rd (upd H d (.frz o (.dK kvs))) a u := fun {a u} h => by
    by_cases e : a = d
    · subst e
      rcases h with h | ⟨o', h⟩
      · rw [hd] at h
        cases h
        exact .inr ⟨o, upd_same⟩
      · rw [hd] at h
        cases h
    · rcases h with h | ⟨o', h⟩
      · exact .inl (by rw [upd_ne e]; exact h)
      · exact .inr ⟨o', by rw [upd_ne e]; exact h⟩
  cases h with
  | non => exact .non
  | bl b => exact .bl b
  | int i => exact .int i
  | str z => exact .str z
  | lst h => exact .lst (h.elim (fun h => .inl (rd h)) .inr)
  | tup h => exact .tup (h.elim (fun h => .inl (rd h)) .inr)
  | dict h => exact .dict (rd h)
end Ox
namespace Ox
open PySem PySem.Spec PyProof.Rows L2
section
variable {σ : L2.St} {H : Hp} {Q : VK} {ta : TE} {K : PySem.W.Frag} {C : Addr} {sp : Sp}
def rRevA (K : PySem.W.Frag) (x : V) (H : Hp) (Q : VK) : Prop := ∃ a xs, x = .ref a ∧ SqL K H a xs ∧ ∀ p, H p = none → Q (.ref p) (upd H p (.lst xs.reverse))
theorem x_revL (h : ta σ H fun x H1 => rRevA K x H1 Q) : tRevL K ta σ H Q := h
theorem x_rev {a : Addr} {xs : List V} (h : SqL K H a xs) (q : ∀ p, H p = none → Q (.ref p) (upd H p (.lst xs.reverse))) : rRevA K (.ref a) H Q := ⟨a, xs, rfl, h, q⟩
def rPropA (C : Addr) (sp : Sp) (x : V) (H : Hp) (Q : VK) : Prop := ∃ a dx fs, x = .ref a ∧ H a = some (.ins C dx fs) ∧ sp [.ref a] H Q E0
theorem x_prop (h : ta σ H fun x H1 => rPropA C sp x H1 Q) : tProp C sp [] E0 ta σ H Q := h
theorem x_prp {a dx : Addr} {fs : List (Str × V)} (h : H a = some (.ins C dx fs)) (q : sp [.ref a] H Q E0) : rPropA C sp (.ref a) H Q := ⟨a, dx, fs, rfl, h, q⟩
theorem x_putL {α : Type} {f : α → V} {l : List (Str × α)} {z : Str} {x : α} {v : V} {p : Addr} {N : Hp → Prop} (h : H p = some (.dK (strK f l))) (hl : l.length < 10000) (hv : v = f x) (q : N (upd H p (.dK (strK f (putL l z x))))) : rDputA (.ref p) (.str z) v H N := by
  subst hv
  refine x_putS h (sz_lt (by rw [List.length_map]; exact hl)) ?_
  rw [strK_put]
  exact q
theorem x_getL {α : Type} {f : α → V} {l : List (Str × α)} {z : Str} {x : α} {p : Addr} (h : Rd H p (.dK (strK f l))) (e : l.lookup z = some x) (q : Q (f x) H) : rGetA (.ref p) (.str z) H Q :=
  x_getS h (by rw [strK_look, e]; rfl) q
theorem x_inD {α : Type} {f : α → V} {l : List (Str × α)} {z : Str} {p : Addr} (h : Rd H p (.dK (strK f l))) (q : Q (.bl (l.lookup z).isSome) H) : rDinA (.str z) (.ref p) H Q := by
  refine x_dinS h ?_
  rw [strK_look, Option.isSome_map]
  exact q
theorem x_ninD {α : Type} {f : α → V} {l : List (Str × α)} {z : Str} {p : Addr} (h : Rd H p (.dK (strK f l))) (q : Q (.bl (!(l.lookup z).isSome)) H) : rDninA (.str z) (.ref p) H Q := by
  refine x_dninS h ?_
  rw [strK_look, Option.isSome_map]
  exact q
end
end Ox
namespace Ox
open PySem PySem.Spec PyProof.Rows L2
/-- a dict was held, then set free -/
theorem same_back {H H' : Hp} {d : Addr} {o : Obj} {u : HO} (hd : H d = some u) (s : L2.Same (upd H d (.frz o u)) H') : L2.Same H (upd H' d u) := fun b x e => by
  by_cases hb : b = d
  · subst hb
    rw [hd] at e
    rw [upd_same, e]
  · rw [upd_ne hb]
    exact s b x (by rw [upd_ne hb]; exact e)
theorem rd_held {H : Hp} {d n : Addr} {o : Obj} {u x : HO} (hn : n ≠ d) (h : Rd H n x) : Rd (upd H d (.frz o u)) n x := by
  rcases h with h | ⟨o', h⟩
  · exact .inl (by rw [upd_ne hn]; exact h)
  · exact .inr ⟨o', by rw [upd_ne hn]; exact h⟩
theorem upd_id {H : Hp} {d : Addr} {u : HO} (h : H d = some u) : upd H d u = H := by
  funext b
  by_cases hb : b = d
  · subst hb; rw [upd_same, h]
  · rw [upd_ne hb]
/-! ### while x: -/
section
variable {tb : TS} {σ : L2.St} {H : Hp} {n : L2.St → Hp → Prop} {r : VK} {b k : L2.St → Hp → Prop} {i : Nat}
/-- W m: what holds ahead of the test, m goes down -/
theorem lpWv (W : Nat → L2.St → Hp → Prop) {m : Nat} (h0 : W m σ H) (hs : ∀ m σ H, W m σ H → ∃ z, σ[i]? = some (some (.bl z)) ∧
    if z = true then tb ⟨fun σ' H' => ∃ m', m' < m ∧ W m' σ' H', r, n, fun σ' H' => ∃ m', m' < m ∧ W m' σ' H'⟩ σ H else n σ H) : tWhile (tTest (tVar i)) tb ⟨n, r, b, k⟩ σ H := by
  refine ⟨W, ⟨m, h0⟩, fun m σ H h => ?_⟩
  obtain ⟨z, hz, q⟩ := hs m σ H h
  refine ⟨.bl z, hz, z, rfl, ?_⟩
  cases z with
  | true => exact ⟨fun σ' H' => ∃ m', m' < m ∧ W m' σ' H', fun _ _ h => h, q⟩
  | false => exact q
end
end Ox

/-! Own layer, third part: name = {k: v for ..}. -/
namespace Ox
open PySem PySem.Spec PyProof.Rows L2
section
variable {X : Cx}
theorem sw_trueD {kx vx : Expr} {gs : List Comprehension} {scope : Scope} {pos py : Pos} {y : Str} {l : Nat} {env : Env} (hk : env.scope.kind = .function) (hy : env.scope.names.lookup y = some .local) (hl : (py.line == pos.line) = true)
    (ha : (scope.names.any fun (n, k) => n == y && (k == .local || k == .cell)) = false) : swapsWith (.DictComp kx vx gs scope pos) (some (.Name y py)) l env = pure true := by
  have k1 : env.kindOf y = some .local := hy
  have k2 : env.blockKind = .function := by unfold Env.blockKind; rw [hk]; rfl
  unfold swapsWith; simp only [k2, k1, ha, Expr.pos, hl]; rfl
theorem ps_setDc {i : Nat} {y : Str} {py : Pos} {kx vx tg iter : Expr} {ifs : List Expr} {scope : Scope} {own : List (Str × Nat)} {pos spos : Pos} {wi : TI} {g : TG} {tt : TT} {tk tv : TE} (hc : X.calm = true) (hN : X.N.Nodup) (hy : X.N[i]? = some y) (hyl : X.env.scope.names.lookup y = some .local)
    (hsw : swapsWith (.DictComp kx vx [⟨tg, iter, ifs, 0⟩] scope pos) (some (.Name y py)) spos.line X.env = pure true) (hi : PI X tg iter wi) (ok : BlkOk X.N X.env.scope scope own)
    (hg : ∀ (s : Shared) (H : Hp) (C : Addr) (cl : List (Str × Addr)) (fp : List Addr), PG (X.blk s H scope (compEnvC scope cl C X.env) fp) tg g) (htt : ∀ (s : Shared) (H : Hp) (C : Addr) (cl : List (Str × Addr)) (fp : List Addr), PTs (X.blk s H scope (compEnvC scope cl C X.env) fp) ifs tt)
    (hkx : ∀ (s : Shared) (H : Hp) (C : Addr) (cl : List (Str × Addr)) (fp : List Addr), PE (X.blk s H scope (compEnvC scope cl C X.env) fp) kx tk) (hvx : ∀ (s : Shared) (H : Hp) (C : Addr) (cl : List (Str × Addr)) (fp : List Addr), PE (X.blk s H scope (compEnvC scope cl C X.env) fp) vx tv)
    (hs : ∀ x, foldedSetIterable iter X.env x = pure x := by intro _; rfl) :
    PS X (.Assign [.Name y py] (.DictComp kx vx [⟨tg, iter, ifs, 0⟩] scope pos) spos) (tAsg (tDc wi g tt tk tv (own.map (·.2))) (gName i)) := by
  constructor; intro pins s σ H D I h; rw [exec_Assign_Name_used _ _ _ _ hsw]; refine wpAny_bind (wpAny_standAt (wpAny_bind ?_))
  show wpAny _ X.A (do let _ ← comprehension (.DictComp kx vx [⟨tg, iter, ifs, 0⟩] scope pos) scope X.env (firstIterPos [⟨tg, iter, ifs, 0⟩] pos) newDict false (eval iter X.env) (some (assign (.Name y py) X.env))) _ _ s
  have h2 : tDc wi g tt tk tv (own.map (·.2)) σ H (fun x H1 => gName i x σ H1 D.nx) := h
  refine wpAny_bind (thn (dc_core (Qf := fun _ s' => SP X pins D .next s') hc hN I hi ok hg htt hkx hvx hs h2 fun L C s' m H' I' q hn f => ?_) fun _ s' hq => wpAny_pure (wpAny_pure hq))
  show wpAny _ _ (assign (.Name y py) X.env (.ref L)) _ _ _
  refine wpAny_assign_Name (store_ok2 (v := V.ref L) I' hN hy (.inl hyl) rfl (fun s2 I2 ⟨a, sb, ha⟩ => ?_) (.inr hyl)); obtain ⟨f0, f1, f2, f3, f4, f5⟩ := f
  have haC : C ≠ a := by rcases ha with z | z; (· rw [z]; exact f1); (· exact fun e => f4 y a z e.symm)
  refine ⟨m, hn.sameBut sb haC, fun h3 sb3 => ⟨_, H', I2.turned (t' := s2.toks) (fun b o hb e => (sb3.2 b hb).trans e) f0 f1 f3 f4 f5, q⟩⟩
end
end Ox
namespace Ox
open PySem PySem.Spec PyProof.Rows L2
/-! ### sorted texts: one order -/
theorem nlt_trans : ∀ a b c : List Nat, ltCps b a = false → ltCps c b = false → ltCps c a = false
  | [], _, [], _, _ => rfl
  | [], [], _ :: _, _, _ => rfl
  | [], _ :: _, _ :: _, _, _ => rfl
  | _ :: _, [], _, h, _ => by cases h
  | _ :: _, _ :: _, [], _, h => by cases h
  | a :: r, b :: t, c :: u, h1, h2 => by
    have e1 : (decide (b < a) || (b == a && ltCps t r)) = false := h1
    have e2 : (decide (c < b) || (c == b && ltCps u t)) = false := h2
    show (decide (c < a) || (c == a && ltCps u r)) = false
    rw [Bool.or_eq_false_iff, decide_eq_false_iff_not] at e1 e2 ⊢
    refine ⟨by omega, ?_⟩
    by_cases h : c = a
    · have hb : b = a := by omega
      have hc : c = b := by omega
      have f1 := e1.2
      have f2 := e2.2
      rw [hb, beq_self_eq_true, Bool.true_and] at f1
      rw [hc, beq_self_eq_true, Bool.true_and] at f2
      rw [nlt_trans r t u f1 f2, Bool.and_false]
    · rw [beq_eq_false_iff_ne.mpr h, Bool.false_and]
theorem nlt_anti : ∀ a b : List Nat, ltCps b a = false → ltCps a b = false → a = b
  | [], [], _, _ => rfl
  | [], _ :: _, _, h => by cases h
  | _ :: _, [], h, _ => by cases h
  | a :: r, b :: t, h1, h2 => by
    have e1 : (decide (b < a) || (b == a && ltCps t r)) = false := h1
    have e2 : (decide (a < b) || (a == b && ltCps r t)) = false := h2
    rw [Bool.or_eq_false_iff, decide_eq_false_iff_not] at e1 e2
    have hb : b = a := by omega
    subst hb
    have f1 := e1.2
    have f2 := e2.2
    rw [beq_self_eq_true, Bool.true_and] at f1 f2
    rw [nlt_anti r t f1 f2]
abbrev LeS (a b : Str) : Prop := ltCps b.cps.toList a.cps.toList = false
theorem rising_pw : ∀ (p : Str) (l : List Str), risingS p l = true → (p :: l).Pairwise LeS
  | p, [], _ => List.pairwise_singleton _ _
  | p, x :: r, h => by
    have h1 : (!ltCps x.cps.toList p.cps.toList && risingS x r) = true := h
    rw [Bool.and_eq_true, Bool.not_eq_true'] at h1
    have ih := rising_pw x r h1.2
    refine List.pairwise_cons.mpr ⟨fun y hy => ?_, ih⟩
    rcases List.mem_cons.mp hy with e | hy
    · subst e
      exact h1.1
    · exact nlt_trans _ _ _ h1.1 ((List.pairwise_cons.mp ih).1 y hy)
theorem sorted_pw {l : List Str} (h : sortedS l = true) : l.Pairwise LeS := by
  cases l with
  | nil => exact .nil
  | cons x r => exact rising_pw x r h
theorem str_ext {a b : Str} (h : a.cps.toList = b.cps.toList) : a = b := by
  cases a with
  | mk a =>
    cases b with
    | mk b =>
      have e : a = b := Array.toList_inj.mp h
      rw [e]
theorem sorted_one {l l' : List Str} (h : sortedS l = true) (h' : sortedS l' = true) (p : l.Perm l') : l = l' :=
  List.Perm.eq_of_pairwise (le := LeS) (fun a b _ _ h1 h2 => str_ext (nlt_anti _ _ h1 h2)) (sorted_pw h) (sorted_pw h') p
/-! ### a heap without one place -/
def wo (H : Hp) (a : Addr) : Hp := fun b => if b = a then none else H b
theorem wo_at {H : Hp} {a : Addr} : wo H a a = none := if_pos rfl
theorem wo_ne {H : Hp} {a b : Addr} (h : b ≠ a) : wo H a b = H b := if_neg h
theorem wo_same {H : Hp} {a : Addr} : L2.Same (wo H a) H := fun b o e => by
  by_cases h : b = a
  · subst h
    rw [wo_at] at e
    cases e
  · rw [wo_ne h] at e
    exact e
theorem wo_mono {H H' : Hp} {a : Addr} (s : L2.Same H H') : L2.Same (wo H a) (wo H' a) := fun b o e => by
  by_cases h : b = a
  · subst h
    rw [wo_at] at e
    cases e
  · rw [wo_ne h] at e ⊢
    exact s b o e
theorem wo_upd {H : Hp} {a : Addr} {u : HO} : wo (upd H a u) a = wo H a := by
  funext b
  by_cases h : b = a
  · subst h
    rw [wo_at, wo_at]
  · rw [wo_ne h, wo_ne h, upd_ne h]
theorem same_wo {H H' : Hp} {a : Addr} {u : HO} (s : L2.Same H H') : L2.Same (wo H a) (upd H' a u) := same_upd (wo_same.trans s) wo_at
theorem len_put {f : Str} {v : V} {fs : List (Str × V)} {k : Nat} (h : fs.length < k) : (putF f v fs).length < k + 1 := Nat.lt_of_le_of_lt (length_putF _ _ _) (Nat.succ_lt_succ h)
end Ox
namespace Ox
open PySem PySem.Spec PyProof.Rows L2
/-! ### slices -/
def rPartA (x : V) (H : Hp) (R : Option Int → Hp → Prop) : Prop := ∃ i, x = .int i ∧ R (some i) H
section
variable {σ : L2.St} {H : Hp} {Q : VK} {te : TE} {tl th : TO} {K : PySem.W.Frag} {R : Option Int → Hp → Prop}
theorem x_sl {r : V → Option Int → Option Int → Hp → VK → Prop} (h : te σ H fun x H1 => tl σ H1 fun l H2 => th σ H2 fun u H3 => r x l u H3 Q) : tSl r te tl th σ H Q := h
theorem x_nopart (h : R none H) : tNoPart σ H R := h
theorem x_part (h : te σ H fun x H1 => rPartA x H1 R) : tPart te σ H R := h
theorem x_parti {i : Int} (h : R (some i) H) : rPartA (.int i) H R := ⟨i, rfl, h⟩
theorem x_slL {p : Addr} {xs : List V} {lo hi : Option Int} (h : SqL K H p xs) (q : ∀ l, H l = none → Q (.ref l) (upd H l (.lst (cutV xs lo hi)))) : rSlL K (.ref p) lo hi H Q := ⟨p, xs, rfl, h, q⟩
theorem cut_from {xs : List V} {lo : Int} (h0 : 0 ≤ lo) (h1 : lo ≤ xs.length) : cutV xs (some lo) none = xs.drop lo.toNat := by
  obtain ⟨k, rfl⟩ : ∃ k : Nat, lo = (k : Int) := ⟨lo.toNat, by omega⟩
  unfold cutV
  rw [HT.sIx_nat, HT.sIx_none, Int.toNat_natCast]
  have hk : min k xs.length = k := by omega
  rw [hk]
  exact List.take_of_length_le (by rw [List.length_drop]; omega)
theorem cut_to {xs : List V} {hi : Int} (h0 : 0 ≤ hi) (h1 : hi ≤ xs.length) : cutV xs none (some hi) = xs.take hi.toNat := by
  obtain ⟨k, rfl⟩ : ∃ k : Nat, hi = (k : Int) := ⟨hi.toNat, by omega⟩
  unfold cutV
  rw [HT.sIx_nat, HT.sIx_none, Int.toNat_natCast]
  have hk : min k xs.length = k := by omega
  rw [hk]
  rfl
end
/-! ### a list of whole numbers, asked at a place -/
theorem pickI (L : List Int) {j : Int} (h0 : 0 ≤ j) (h1 : j < L.length) : ∃ g, (L.map V.int)[j.toNat]? = some (.int g) ∧ g ∈ L := by
  have hlt : j.toNat < L.length := by omega
  refine ⟨L[j.toNat], ?_, List.getElem_mem hlt⟩
  rw [List.getElem?_map, List.getElem?_eq_getElem hlt]
  rfl
theorem pickS (L : List Str) {j : Int} (h0 : 0 ≤ j) (h1 : j < L.length) : ∃ g, (L.map V.str)[j.toNat]? = some (.str g) ∧ L[j.toNat]? = some g := by
  have hlt : j.toNat < L.length := by omega
  refine ⟨L[j.toNat], ?_, List.getElem?_eq_getElem hlt⟩
  rw [List.getElem?_map, List.getElem?_eq_getElem hlt]
  rfl
/-! ### stores, asked again -/
theorem lookup_putL {α : Type} (l : List (Str × α)) (z : Str) (x : α) (y : Str) : (putL l z x).lookup y = if y = z then some x else l.lookup y := by
  by_cases hz : z ∈ l.map (·.1)
  · rw [putL_old x hz]
    have key : ∀ l : List (Str × α), (l.map fun p => if p.1 = z then (p.1, x) else p).lookup y = if y = z then (if z ∈ l.map (·.1) then some x else none) else l.lookup y := by
      intro l
      induction l with
      | nil => by_cases e : y = z <;> simp [e]
      | cons p r ih =>
        rw [List.map_cons, List.lookup_cons, List.lookup_cons, ih]
        by_cases ep : p.1 = z
        · rw [if_pos ep]
          by_cases e : y = z
          · have : (y == p.1) = true := by rw [e, ep]; exact beq_self_eq_true z
            simp [e, ep]
          · have : (y == p.1) = false := by rw [ep]; exact beq_eq_false_iff_ne.mpr e
            simp [e, this]
        · rw [if_neg ep]
          by_cases e : y = z
          · have h2 : (y == p.1) = false := by rw [e]; exact beq_eq_false_iff_ne.mpr fun q => ep q.symm
            have h3 : (z ∈ (p :: r).map (·.1)) ↔ z ∈ r.map (·.1) := by
              rw [List.map_cons, List.mem_cons]
              exact ⟨fun h => h.resolve_left fun q => ep q.symm, .inr⟩
            rw [h2]
            simp only [e, if_true]
            by_cases h4 : z ∈ r.map (·.1)
            · rw [if_pos h4, if_pos (h3.mpr h4)]
            · rw [if_neg h4, if_neg fun q => h4 (h3.mp q)]
          · simp only [e, if_false]
    rw [key l, if_pos hz]
  · rw [putL_new x hz, List.lookup_append]
    by_cases e : y = z
    · rw [if_pos e, e, lookup_none hz]
      simp
    · rw [if_neg e]
      cases hl : l.lookup y with
      | some v => rfl
      | none =>
        have e2 : (y == z) = false := beq_eq_false_iff_ne.mpr e
        simp [List.lookup, e2]
theorem putL_keys2 {α β : Type} {l : List (Str × α)} {m : List (Str × β)} (h : m.map (·.1) = l.map (·.1)) (z : Str) (x : α) (y : β) : (putL m z y).map (·.1) = (putL l z x).map (·.1) := by
  by_cases hz : z ∈ l.map (·.1)
  · rw [putL_keys x hz, putL_keys y (by rw [h]; exact hz), h]
  · rw [putL_new x hz, putL_new y (by rw [h]; exact hz), List.map_append, List.map_append, h]
    rfl
theorem putL_pos {α : Type} (l : List (Str × α)) (z : Str) (x : α) : 1 ≤ (putL l z x).length := by
  by_cases hz : z ∈ l.map (·.1)
  · rw [putL_old x hz, List.length_map]
    cases l with
    | nil => cases hz
    | cons p r => exact Nat.succ_le_succ (Nat.zero_le _)
  · rw [putL_new x hz, List.length_append]
    exact Nat.le_add_left _ _
/-! ### heaps without the pool -/
theorem but_wo {p : Addr} {H H' : Hp} (b : But p H H') : L2.Same (wo H p) (wo H' p) := fun x o e => by
  by_cases h : x = p
  · subst h
    rw [wo_at] at e
    cases e
  · rw [wo_ne h] at e ⊢
    exact b x o e h
theorem wo_upd_ne {H : Hp} {p D : Addr} {u : HO} (h : D ≠ p) : wo (upd H D u) p = upd (wo H p) D u := by
  funext b
  by_cases e : b = p
  · subst e
    rw [wo_at, upd_ne (Ne.symm h), wo_at]
  · rw [wo_ne e]
    by_cases e2 : b = D
    · subst e2
      rw [upd_same, upd_same]
    · rw [upd_ne e2, upd_ne e2, wo_ne e]
theorem wo_none {H : Hp} {p a : Addr} (h : H a = none) : wo H p a = none := by
  by_cases e : a = p
  · rw [e]; exact wo_at
  · rw [wo_ne e]; exact h
theorem wo_some {H : Hp} {p a : Addr} {o : HO} (h : wo H p a = some o) : H a = some o ∧ a ≠ p := by
  by_cases e : a = p
  · rw [e, wo_at] at h
    cases h
  · rw [wo_ne e] at h
    exact ⟨h, e⟩
end Ox
namespace Ox
open PySem PySem.Spec PyProof.Rows L2
theorem same_made {H H1 H' : Hp} {x dx C : Addr} (s : L2.Same H H1) (nx : H1 x = none) (nd : H1 dx = none) (k : ∀ b o, (upd (upd H1 dx (.own x)) x (.ins C dx [])) b = some o → b ≠ x → H' b = some o) : L2.Same H H' := fun b o e => by
  have e1 := s b o e
  exact k b o (by rw [upd_ne (ne_of_none e1 nx), upd_ne (ne_of_none e1 nd)]; exact e1) (ne_of_none e1 nx)
end Ox

/-! Own layer, fourth part: enumerate(row), the row a list or a tuple. -/
namespace Ox
open PySem PySem.Spec PyProof.Rows L2
theorem meets_enum1 {v : Value} {o : Obj} {Hh : Heap → Prop} (B : Begins v o Hh) :
    Meets (Builtin.«enumerate.__new__» ⟨[.type "enumerate", v], []⟩) (fun _ R s => Hh s.heap ∧
      R (.ok (.ret (.ref (s.heap.push o).objs.size))) { s with heap := (s.heap.push o).push { cls := .type "enumerate", data := .fields #[.none, .bool false, .ref s.heap.objs.size, rawInt 0, .none, .none] } }) :=
  .of_wp fun prog w A R s h => by
    obtain ⟨hp, gs, dr, tk, os⟩ := s
    obtain ⟨h1, h2⟩ := h
    have hsub := sub_enumerate
    have q1 : ∀ {A' : Around} {E : Value → Shared → Prop} {Q : Value → Shared → Prop}, Q (.ref hp.objs.size) ⟨hp.push o, gs, dr, tk, os⟩ → wpAny (model prog w) A' (pyIter v) Q E ⟨hp, gs, dr, tk, os⟩ := fun q => B.iter prog w _ _ ⟨hp, gs, dr, tk, os⟩ _ h1 q
    wp_walk using q1
    refine wpAny_stack_any fun st => wpAny_pure ?_
    split
    · rename_i c _ _ _ _ _
      cases (c == Value.type "enumerate") <;> (wp_walk using q1; exact ⟨_, rfl, h2⟩)
    · wp_walk using q1; exact ⟨_, rfl, h2⟩
section
variable {prog : Program} {w : World} {A : Around} {E : Value → Shared → Prop} {s : Shared}
theorem enum1_begins {v : Value} {o : Obj} {Hh : Heap → Prop} {Q : Value → Shared → Prop} (B : Begins v o Hh) (h1 : Hh s.heap)
    (h : ∀ h', IsEnum h' (s.heap.objs.size + 1) s.heap.objs.size 0 .none → h'.get? s.heap.objs.size = some o → h'.objs.size = s.heap.objs.size + 2 → (∀ b o, s.heap.get? b = some o → h'.get? b = some o) → Q (.ref (s.heap.objs.size + 1)) { s with heap := h' }) :
    wpAny (model prog w) A (call (.type "enumerate") [v]) Q E s := by
  refine callType_new F.called_enumerate (by decide) (F.typeCall_enumerate_1 _) (F.newCall_enumerate_1 _) (fun obj => F.args_object_init_2 obj _) F.entry_enumerate_new (meets_enum1 B) ⟨h1, ?_⟩
  have hz : (s.heap.push o).objs.size = s.heap.objs.size + 1 := Heap.size_push ..
  show _ ∧ _
  rw [hz]
  have he : IsEnum ((s.heap.push o).push { cls := .type "enumerate", data := .fields #[.none, .bool false, .ref s.heap.objs.size, rawInt 0, .none, .none] }) (s.heap.objs.size + 1) s.heap.objs.size 0 .none := by
    have e := Heap.get?_push_size (s.heap.push o) (o := { cls := .type "enumerate", data := .fields #[.none, .bool false, .ref s.heap.objs.size, rawInt 0, .none, .none] }) rfl
    rw [hz] at e; exact e
  refine ⟨⟨_, he, rfl⟩, h _ he (Heap.get?_push_of_some _ (Heap.get?_push_size _ B.free)) (by rw [Heap.size_push, hz]) ?_⟩
  exact fun b ob x => Heap.get?_push_of_some _ (Heap.get?_push_of_some _ x)
end
/-- the tuple at a as it stands at each turn, each item in a new pair -/
def IteT (K : PySem.W.Frag) (a : Addr) : It :=
  ⟨fun i H => ∃ (xs : List V) (x : V), SqT K H a xs ∧ xs[i]? = some x, fun i H v H' => ∃ T x, v = .ref T ∧ H T = none ∧ H' = upd H T (.tup [.int (i : Nat), x]) ∧ ∀ xs, SqT K H a xs → xs[i]? = some x, fun i H => ∃ xs : List V, SqT K H a xs ∧ xs.length = i⟩
theorem turn_enumT {P : Program} {w : World} {K : PySem.W.Frag} {elts : List Expr} {kk : Nat} {tpos : Pos} (a e it : Addr) :
    Turn P w K (.Tuple elts kk tpos) (IteT K a) [e, it] e (fun i h => (∃ old, IsEnum h e it ((i : Nat) : Int) old) ∧ h.IsTupleIter it a i ∧ e ≠ it) where
  mem := by simp
  obj := fun i h st b hb => by
    obtain ⟨⟨old, he⟩, ⟨o, ho, hc, hd⟩, _⟩ := st
    rcases (show b = e ∨ b = it by simpa using hb) with z | z <;> rw [z]
    · exact ⟨_, he, fun v q => nomatch q⟩
    · exact ⟨o, ho, fun v q => by rw [hd] at q; cases q⟩
  keep := fun i h h' st k => ⟨st.1.imp fun old he => k e (by simp) _ he, st.2.1.at fun o q => k it (by simp) o q, st.2.2⟩
  item := by
    intro X hP hw hK hc i pins s σ H E I hf st hg; subst hP hw hK
    obtain ⟨⟨old, he⟩, hit, hne⟩ := st; obtain ⟨xs, x, hq, hx⟩ := hg
    obtain ⟨its, rv, p, hz⟩ := I.tuple hq
    have hT0 : s.heap.IsTuple a its.toArray := p
    obtain ⟨u, hu, ru⟩ := rv.get hx
    have hel : e < s.heap.objs.size := Heap.lt_size he
    have hil : it < s.heap.objs.size := by obtain ⟨_, q, _⟩ := hit; exact Heap.lt_size q
    have hai : a ≠ it := fun z => by
      obtain ⟨o1, q1, c1, _⟩ := hit; obtain ⟨o2, q2, c2, _⟩ := hT0
      rw [z, q1] at q2; cases q2; rw [c1] at c2; injection c2 with c3; exact absurd c3 (by decide)
    have hea : e ≠ a := fun z => by
      obtain ⟨o2, q2, c2, _⟩ := hT0
      rw [← z, show s.heap.get? e = _ from he] at q2; cases q2; injection c2 with c3; exact absurd c3 (by decide)
    have hh : X.A.in1.handled = none := I.ok.hd hc
    have hlt : i < its.toArray.size := by
      have := (List.getElem?_eq_some_iff.mp hu).1
      simpa using this
    refine wpAny_pyNext_enum_itemD (Draws.tuple hh it a hai its.toArray) he ⟨hit, hT0⟩ hlt hne (by simp [hne, hea]) fun y h' tk hy ho hst' hT hsz hk => ?_
    have ey : y = u := by
      have e1 : its.toArray[i]? = some u := by simpa using hu
      rw [e1] at hy
      exact (Option.some.inj hy).symm
    subst ey
    refine ⟨_, rfl, wpAny_letOwnedTupleGo_enum (s := { s with heap := h', toks := tk + 1 }) ho fun h'' he' sb => ?_⟩
    have hT2 : h''.get? s.heap.objs.size = some { cls := .type "tuple", data := .seq #[.int i tk, y] } := (sb.2 _ (Nat.ne_of_gt hel)).trans hT
    have new : ObjOk X.prog X.w (upd H s.heap.objs.size (.tup [.int (i : Nat), x])) h'' s.heap.objs.size (.tup [.int (i : Nat), x]) := ⟨by show 2 ≤ sizeLine; decide, [.int i tk, y], .cons ⟨_, rfl⟩ (.cons ru .nil), ⟨_, hT2, rfl, _, rfl⟩⟩
    have I1 : Inv X pins σ (upd H s.heap.objs.size (.tup [.int (i : Nat), x])) { s with heap := h'', toks := tk + 1 } :=
      I.turnedNew (ch := [e, it]) (fun b ob hb q => (sb.2 b (fun z => hb (by rw [z]; simp))).trans (hk b ob (fun z => hb (by rw [z]; simp)) (fun z => hb (by rw [z]; simp)) q)) hf (Nat.le_refl _) new
    refine ⟨.ref s.heap.objs.size, _, I1, rfl, ⟨_, x, rfl, I.hok.fresh (Nat.le_refl _), rfl, fun ys hy => by rw [I.tuple_inj hy hq]; exact hx⟩, ⟨⟨y, ?_⟩, hst'.1.at fun o q => (sb.2 it (Ne.symm hne)).trans q, hne⟩, fun b hb => ?_⟩
    · rw [show ((i + 1 : Nat) : Int) = (i : Int) + 1 by omega]; exact he'
    · have hb' : b < s.heap.objs.size := by rcases (show b = e ∨ b = it by simpa using hb) with z | z <;> (rw [z]; assumption)
      rw [upd_ne (Nat.ne_of_lt hb')]; exact (hf b hb).1
  done := by
    intro X hP hw hK hc i pins s σ H E I hf st hg; subst hP hw hK
    obtain ⟨⟨old, he⟩, hit, hne⟩ := st; obtain ⟨xs, hq, hx⟩ := hg
    obtain ⟨its, rv, p, hz⟩ := I.tuple hq
    have hT0 : s.heap.IsTuple a its.toArray := p
    obtain ⟨f0, f1, f2, f3, f4, f5⟩ := hf it (by simp)
    have hai : a ≠ it := fun z => by
      obtain ⟨o1, q1, c1, _⟩ := hit; obtain ⟨o2, q2, c2, _⟩ := hT0
      rw [z, q1] at q2; cases q2; rw [c1] at c2; injection c2 with c3; exact absurd c3 (by decide)
    have hh : X.A.in1.handled = none := I.ok.hd hc
    have hl := rv.length
    have hea : e ≠ a := fun z => by
      obtain ⟨o2, q2, c2, _⟩ := hT0
      rw [← z, show s.heap.get? e = _ from he] at q2; cases q2; injection c2 with c3; exact absurd c3 (by decide)
    have hn : its.toArray.size = i := by simp; omega
    subst hn
    exact wpAny_pyNext_enum_endD (Draws.tuple hh it a hai its.toArray) he ⟨hit, hT0⟩ fun h' eb => ⟨rfl, I.turned (t' := s.toks) (fun b o hb q => eb b o hb q) f0 f1 f3 f4 f5⟩
  self := fun A i s Q E st h => st.1.elim fun old he => wpAny_pyIter_enum he h
def iEnumT (K : PySem.W.Frag) (ta : TA) : TI := fun σ H R => ta σ H fun vs H1 => ∃ a xs, vs = [.ref a] ∧ ((SqL K H1 a xs ∧ R (Ite K a) H1) ∨ (SqT K H1 a xs ∧ R (IteT K a) H1))
theorem pi_enumT {X : Cx} {e : Expr} {ta : TA} {p pos tpos : Pos} {elts : List Expr} {kk : Nat} (hg : Gl X "enumerate") (hm : X.mg "enumerate" = none) (ha : PA X [e] ta) (hs : starEach [e] X.env = [(false, eval e X.env)] := by rfl) :
    PI X (.Tuple elts kk tpos) (.Call (.Name "enumerate" p) [e] [] pos) (iEnumT X.K ta) := by
  constructor; intro pins s σ H R I h
  refine Call_ (ld_blt I hg hm boot_enumerate (PyProof.Rows.callWith_type1 (thn (ha.run pos pins s σ H _ I h) fun us s1 ⟨vs, H1, I1, r1, q1⟩ => ?_) hs rfl))
  obtain ⟨a, xs, ex, hq⟩ := q1; subst ex
  obtain ⟨u, rfl, ru⟩ := vals1 r1
  cases ru
  have fresh : ∀ b, b = s1.heap.objs.size + 1 ∨ b = s1.heap.objs.size → FpOk X pins H1 b := fun b hb => by
    have hle : s1.heap.objs.size ≤ b := by rcases hb with z | z <;> rw [z] <;> omega
    exact I1.fpOk hle (I1.hok.fresh hle)
  rcases hq with ⟨hq, q⟩ | ⟨hq, q⟩
  · obtain ⟨its, rv, p', hz⟩ := I1.list hq
    refine call_enumerate_list p'.isList fun h' he hit hsz hk => wpAny_pyIter_enum he ⟨s1.heap.objs.size + 1, [s1.heap.objs.size + 1, s1.heap.objs.size], _, _, H1, rfl, I1.kept (t' := s1.toks) hk, turn_enum a (s1.heap.objs.size + 1) s1.heap.objs.size, ⟨⟨.none, he⟩, hit, Nat.succ_ne_self _⟩, fun b hb => fresh b (by simpa using hb), q⟩
  · obtain ⟨its, rv, p', hz⟩ := I1.tuple hq
    refine enum1_begins (begins_tuple a its.toArray) p' fun h' he hit hsz hk => wpAny_pyIter_enum he ⟨s1.heap.objs.size + 1, [s1.heap.objs.size + 1, s1.heap.objs.size], _, _, H1, rfl, I1.kept (t' := s1.toks) hk, turn_enumT a (s1.heap.objs.size + 1) s1.heap.objs.size, ⟨⟨.none, he⟩, ⟨_, hit, rfl, rfl⟩, Nat.succ_ne_self _⟩, fun b hb => fresh b (by simpa using hb), q⟩
/-! ### the loop over it -/
def LpE (K : PySem.W.Frag) (g : TG) (tb : TS) (D : Ends) (σ : L2.St) (vs : List V) (H : Hp) : Prop := ∃ a xs, vs = [.ref a] ∧ ((SqL K H a xs ∧ Lp (Ite K a) g tb D σ H) ∨ (SqT K H a xs ∧ Lp (IteT K a) g tb D σ H))
section
variable {σ : L2.St} {H : Hp} {n : L2.St → Hp → Prop} {r : VK} {b c : L2.St → Hp → Prop} {tb : TS} {g : TG} {K : PySem.W.Frag} {al : TA} {p : Addr}
theorem x_forE (h : al σ H fun x H1 => LpE K g tb ⟨n, r, b, c⟩ σ x H1) : tFor (iEnumT K al) g tb ⟨n, r, b, c⟩ σ H := h
/-- a list or a tuple -/
def SqR (K : PySem.W.Frag) (H : Hp) (a : Addr) (xs : List V) : Prop := SqL K H a xs ∨ SqT K H a xs
theorem lpE {xs : List V} (Pv : Nat → L2.St → Hp → Prop) (h : (∀ σ' H' i, i ≤ xs.length → Pv i σ' H' → SqL K H' p xs) ∨ (∀ σ' H' i, i ≤ xs.length → Pv i σ' H' → SqT K H' p xs)) (h0 : Pv 0 σ H)
    (hs : ∀ i x σ H T, xs[i]? = some x → Pv i σ H → H T = none → g (.ref T) σ (upd H T (.tup [.int (i : Nat), x])) fun σ2 H2 => tb ⟨Pv (i + 1), r, n, Pv (i + 1)⟩ σ2 H2) (hd : ∀ σ H, Pv xs.length σ H → n σ H) : LpE K g tb ⟨n, r, b, c⟩ σ [.ref p] H := by
  rcases h with h | h
  · refine ⟨p, xs, rfl, .inl ⟨h σ H 0 (Nat.zero_le _) h0, fun i k σ H => k = xs.length - i ∧ i ≤ xs.length ∧ Pv i σ H, ⟨_, rfl, Nat.zero_le _, h0⟩, ?_⟩⟩
    rintro i k σ1 H1 ⟨rfl, hi, hp⟩
    have q := h σ1 H1 i hi hp
    by_cases hlt : i < xs.length
    · refine .inr ⟨⟨xs, xs[i], q, by simp [hlt]⟩, Pv (i + 1), fun σ' H' p' => ⟨xs.length - (i + 1), by omega, rfl, hlt, p'⟩, fun x H' y => ?_⟩
      obtain ⟨T, v, rfl, hT, rfl, hv⟩ := y
      exact hs i v σ1 H1 T (hv xs q) hp hT
    · have e : i = xs.length := by omega
      subst e
      exact .inl ⟨⟨xs, q, Nat.le_refl _⟩, hd σ1 H1 hp⟩
  · refine ⟨p, xs, rfl, .inr ⟨h σ H 0 (Nat.zero_le _) h0, fun i k σ H => k = xs.length - i ∧ i ≤ xs.length ∧ Pv i σ H, ⟨_, rfl, Nat.zero_le _, h0⟩, ?_⟩⟩
    rintro i k σ1 H1 ⟨rfl, hi, hp⟩
    have q := h σ1 H1 i hi hp
    by_cases hlt : i < xs.length
    · refine .inr ⟨⟨xs, xs[i], q, by simp [hlt]⟩, Pv (i + 1), fun σ' H' p' => ⟨xs.length - (i + 1), by omega, rfl, hlt, p'⟩, fun x H' y => ?_⟩
      obtain ⟨T, v, rfl, hT2, rfl, hv⟩ := y
      exact hs i v σ1 H1 T (hv xs q) hp hT2
    · have e : i = xs.length := by omega
      subst e
      exact .inl ⟨⟨xs, q, rfl⟩, hd σ1 H1 hp⟩
end
end Ox
namespace Ox
open PySem PySem.Spec PyProof.Rows L2
/-! ### methods -/
section
variable {X : Cx} {k : Nat} {C : Addr} {m : Str} {ps : List Str} {sp : Sp} {o e : Expr} {es : List Expr} {ta : TE} {t : TA} {apos pos : Pos} {pl : Sem Bool}
theorem pe_mt (M : Met X.prog X.w X.K X.mg X.base C k m ps sp) (kc : Cls X.K C) (hr : Room k X.A) (he : PE X o ta) (ha : PA X (e :: es) t)
    (hst : starEach (e :: es) X.env = (false, eval e X.env) :: starEach es X.env := by rfl) (hpl : (backTo pos (starEach es X.env)).any (·.1) = false := by rfl)
    (ht : eval (.Call (.Attribute o m apos) (e :: es) [] pos) X.env = (do let ov ← eval o X.env; standAt apos.atName; let (f, first) ← holding [ov] (getMethod ov m pl); callWith pos f first (backTo pos (starEach (e :: es) X.env)) (backToKw pos (keywordEach [] X.env))) := by rfl) :
    PE X (.Call (.Attribute o m apos) (e :: es) [] pos) (tMeth C m sp [] E0 ta t) := by
  obtain ⟨f, fd, mt, F, hb⟩ := M.ex
  exact pe_meth he kc mt F hr hb .nil pass0 ha hst hpl ht
end
def rMtA (C : Addr) (m : Str) (x : V) (H : Hp) (Z : Prop) : Prop := ∃ a dx fs, x = .ref a ∧ H a = some (.ins C dx fs) ∧ fs.lookup m = none ∧ Z
section
variable {σ : L2.St} {H : Hp} {Q : VK} {ta : TE} {al : TA} {C : Addr} {m : Str} {sp : Sp} {K : PySem.W.Frag}
theorem x_mt (h : ta σ H fun x H1 => rMtA C m x H1 (al σ H1 fun vs H2 => sp (x :: vs) H2 Q E0)) : tMeth C m sp [] E0 ta al σ H Q := by
  show ta σ H fun x H1 => ∃ a dx fs, x = .ref a ∧ H1 a = some (.ins C dx fs) ∧ fs.lookup m = none ∧ al σ H1 fun vs H2 => sp (x :: (vs ++ [])) H2 Q E0
  have e : (fun (x : V) (H1 : Hp) => ∃ a dx fs, x = .ref a ∧ H1 a = some (.ins C dx fs) ∧ fs.lookup m = none ∧ al σ H1 fun vs H2 => sp (x :: (vs ++ [])) H2 Q E0) = fun x H1 => rMtA C m x H1 (al σ H1 fun vs H2 => sp (x :: vs) H2 Q E0) := by
    funext x H1
    have e2 : (fun (vs : List V) (H2 : Hp) => sp (x :: (vs ++ [])) H2 Q E0) = fun vs H2 => sp (x :: vs) H2 Q E0 := by
      funext vs H2
      rw [List.append_nil]
    rw [e2]
    rfl
  rw [e]
  exact h
theorem x_mti {a dx : Addr} {fs : List (Str × V)} {Z : Prop} (h : H a = some (.ins C dx fs)) (hl : fs.lookup m = none) (q : Z) : rMtA C m (.ref a) H Z := ⟨a, dx, fs, rfl, h, hl, q⟩
/-! ### isinstance(x, (list, tuple)) -/
theorem x_isiLT {x : V} {k : Kn} {tp : Addr} (h : Kd K H x k) (ht : H tp = some (.tup [.ty "list", .ty "tuple"])) (q : Q (.bl (isB k .lst || isB k .tup)) H) : rIsiT K [x, .ref tp] H Q := by
  refine ⟨x, tp, _, _, _, _, rfl, ht, .cons (.ty "list") (.cons (.ty "tuple") .nil), h.tyx, ?_, q⟩
  cases k <;> rfl
end
end Ox

namespace Law
open PySem PySem.Spec PyProof.Rows L2 Ox
def top (i : Nat) : Stmt := PySem.Challenge.pw_ownslips_k20_rounds_that_go_nowhere.main.body.getD i (.Pass ⟨0, 0, 0, 0⟩)
abbrev s__wall : Stmt := top 0
abbrev N__wall : List Str := ["k"]
theorem sc__wall : FnScope N__wall ["k"] (defScope s__wall) := ⟨rfl, rfl, rfl, by decide +kernel, rfl, by decide +kernel, by decide +kernel⟩
theorem bd__wall {K : PySem.W.Frag} {f : Addr} {fd : FuncData} (F : Fun K "_wall" "_wall" s__wall f fd) : Binds K fd ["k"] [] := F.binds fun _ _ _ _ _ _ us hl => match us, hl with | [_], _ => rfl
abbrev s_is_integer : Stmt := top 2
abbrev N_is_integer : List Str := ["thing"]
theorem sc_is_integer : FnScope N_is_integer ["thing"] (defScope s_is_integer) := ⟨rfl, rfl, rfl, by decide +kernel, rfl, by decide +kernel, by decide +kernel⟩
theorem bd_is_integer {K : PySem.W.Frag} {f : Addr} {fd : FuncData} (F : Fun K "is_integer" "is_integer" s_is_integer f fd) : Binds K fd ["thing"] [] := F.binds fun _ _ _ _ _ _ us hl => match us, hl with | [_], _ => rfl
abbrev s_is_name : Stmt := top 3
abbrev N_is_name : List Str := ["thing", "char"]
theorem sc_is_name : FnScope N_is_name ["thing"] (defScope s_is_name) := ⟨rfl, rfl, rfl, by decide +kernel, rfl, by decide +kernel, by decide +kernel⟩
theorem bd_is_name {K : PySem.W.Frag} {f : Addr} {fd : FuncData} (F : Fun K "is_name" "is_name" s_is_name f fd) : Binds K fd ["thing"] [] := F.binds fun _ _ _ _ _ _ us hl => match us, hl with | [_], _ => rfl
abbrev s_is_pair : Stmt := top 4
abbrev N_is_pair : List Str := ["thing"]
theorem sc_is_pair : FnScope N_is_pair ["thing"] (defScope s_is_pair) := ⟨rfl, rfl, rfl, by decide +kernel, rfl, by decide +kernel, by decide +kernel⟩
theorem bd_is_pair {K : PySem.W.Frag} {f : Addr} {fd : FuncData} (F : Fun K "is_pair" "is_pair" s_is_pair f fd) : Binds K fd ["thing"] [] := F.binds fun _ _ _ _ _ _ us hl => match us, hl with | [_], _ => rfl
abbrev s_common_divisor : Stmt := top 5
abbrev N_common_divisor : List Str := ["one", "other"]
theorem sc_common_divisor : FnScope N_common_divisor ["one", "other"] (defScope s_common_divisor) := ⟨rfl, rfl, rfl, by decide +kernel, rfl, by decide +kernel, by decide +kernel⟩
theorem bd_common_divisor {K : PySem.W.Frag} {f : Addr} {fd : FuncData} (F : Fun K "common_divisor" "common_divisor" s_common_divisor f fd) : Binds K fd ["one", "other"] [] := F.binds fun _ _ _ _ _ _ us hl => match us, hl with | [_, _], _ => rfl
abbrev s_fraction : Stmt := top 6
abbrev N_fraction : List Str := ["top", "bottom", "divisor"]
theorem sc_fraction : FnScope N_fraction ["top", "bottom"] (defScope s_fraction) := ⟨rfl, rfl, rfl, by decide +kernel, rfl, by decide +kernel, by decide +kernel⟩
theorem bd_fraction {K : PySem.W.Frag} {f : Addr} {fd : FuncData} (F : Fun K "fraction" "fraction" s_fraction f fd) : Binds K fd ["top", "bottom"] [] := F.binds fun _ _ _ _ _ _ us hl => match us, hl with | [_, _], _ => rfl
abbrev s_is_fraction : Stmt := top 7
abbrev N_is_fraction : List Str := ["thing"]
theorem sc_is_fraction : FnScope N_is_fraction ["thing"] (defScope s_is_fraction) := ⟨rfl, rfl, rfl, by decide +kernel, rfl, by decide +kernel, by decide +kernel⟩
theorem bd_is_fraction {K : PySem.W.Frag} {f : Addr} {fd : FuncData} (F : Fun K "is_fraction" "is_fraction" s_is_fraction f fd) : Binds K fd ["thing"] [] := F.binds fun _ _ _ _ _ _ us hl => match us, hl with | [_], _ => rfl
abbrev s_whole : Stmt := top 8
abbrev N_whole : List Str := ["number"]
theorem sc_whole : FnScope N_whole ["number"] (defScope s_whole) := ⟨rfl, rfl, rfl, by decide +kernel, rfl, by decide +kernel, by decide +kernel⟩
theorem bd_whole {K : PySem.W.Frag} {f : Addr} {fd : FuncData} (F : Fun K "whole" "whole" s_whole f fd) : Binds K fd ["number"] [] := F.binds fun _ _ _ _ _ _ us hl => match us, hl with | [_], _ => rfl
abbrev s_plus : Stmt := top 9
abbrev N_plus : List Str := ["one", "other"]
theorem sc_plus : FnScope N_plus ["one", "other"] (defScope s_plus) := ⟨rfl, rfl, rfl, by decide +kernel, rfl, by decide +kernel, by decide +kernel⟩
theorem bd_plus {K : PySem.W.Frag} {f : Addr} {fd : FuncData} (F : Fun K "plus" "plus" s_plus f fd) : Binds K fd ["one", "other"] [] := F.binds fun _ _ _ _ _ _ us hl => match us, hl with | [_, _], _ => rfl
abbrev s_less : Stmt := top 10
abbrev N_less : List Str := ["one", "other"]
theorem sc_less : FnScope N_less ["one", "other"] (defScope s_less) := ⟨rfl, rfl, rfl, by decide +kernel, rfl, by decide +kernel, by decide +kernel⟩
theorem bd_less {K : PySem.W.Frag} {f : Addr} {fd : FuncData} (F : Fun K "less" "less" s_less f fd) : Binds K fd ["one", "other"] [] := F.binds fun _ _ _ _ _ _ us hl => match us, hl with | [_, _], _ => rfl
abbrev s_weighted_mean : Stmt := top 11
abbrev N_weighted_mean : List Str := ["rows", "total", "weights", "each", "weight"]
theorem sc_weighted_mean : FnScope N_weighted_mean ["rows"] (defScope s_weighted_mean) := ⟨rfl, rfl, rfl, by decide +kernel, rfl, by decide +kernel, by decide +kernel⟩
theorem bd_weighted_mean {K : PySem.W.Frag} {f : Addr} {fd : FuncData} (F : Fun K "weighted_mean" "weighted_mean" s_weighted_mean f fd) : Binds K fd ["rows"] [] := F.binds fun _ _ _ _ _ _ us hl => match us, hl with | [_], _ => rfl
abbrev s_is_moves : Stmt := top 19
abbrev N_is_moves : List Str := ["thing", "names", "move", "to"]
theorem sc_is_moves : FnScope N_is_moves ["thing", "names"] (defScope s_is_moves) := ⟨rfl, rfl, rfl, by decide +kernel, rfl, by decide +kernel, by decide +kernel⟩
theorem bd_is_moves {K : PySem.W.Frag} {f : Addr} {fd : FuncData} (F : Fun K "is_moves" "is_moves" s_is_moves f fd) : Binds K fd ["thing", "names"] [] := F.binds fun _ _ _ _ _ _ us hl => match us, hl with | [_, _], _ => rfl
abbrev s_is_draws : Stmt := top 20
abbrev N_is_draws : List Str := ["thing", "names", "draw", "pair"]
theorem sc_is_draws : FnScope N_is_draws ["thing", "names"] (defScope s_is_draws) := ⟨rfl, rfl, rfl, by decide +kernel, rfl, by decide +kernel, by decide +kernel⟩
theorem bd_is_draws {K : PySem.W.Frag} {f : Addr} {fd : FuncData} (F : Fun K "is_draws" "is_draws" s_is_draws f fd) : Binds K fd ["thing", "names"] [] := F.binds fun _ _ _ _ _ _ us hl => match us, hl with | [_, _], _ => rfl
abbrev s_is_stand : Stmt := top 21
abbrev N_is_stand : List Str := ["thing", "hands", "names"]
theorem sc_is_stand : FnScope N_is_stand ["thing", "hands", "names"] (defScope s_is_stand) := ⟨rfl, rfl, rfl, by decide +kernel, rfl, by decide +kernel, by decide +kernel⟩
theorem bd_is_stand {K : PySem.W.Frag} {f : Addr} {fd : FuncData} (F : Fun K "is_stand" "is_stand" s_is_stand f fd) : Binds K fd ["thing", "hands", "names"] [] := F.binds fun _ _ _ _ _ _ us hl => match us, hl with | [_, _, _], _ => rfl
abbrev s_are_stands : Stmt := top 22
abbrev N_are_stands : List Str := ["thing", "hands", "name", "stand"]
theorem sc_are_stands : FnScope N_are_stands ["thing", "hands"] (defScope s_are_stands) := ⟨rfl, rfl, rfl, by decide +kernel, rfl, by decide +kernel, by decide +kernel⟩
theorem bd_are_stands {K : PySem.W.Frag} {f : Addr} {fd : FuncData} (F : Fun K "are_stands" "are_stands" s_are_stands f fd) : Binds K fd ["thing", "hands"] [] := F.binds fun _ _ _ _ _ _ us hl => match us, hl with | [_, _], _ => rfl
abbrev s_copied : Stmt := top 23
abbrev N_copied : List Str := ["stand", "steps", "ordered", "step"]
theorem sc_copied : FnScope N_copied ["stand"] (defScope s_copied) := ⟨rfl, rfl, rfl, by decide +kernel, rfl, by decide +kernel, by decide +kernel⟩
theorem bd_copied {K : PySem.W.Frag} {f : Addr} {fd : FuncData} (F : Fun K "copied" "copied" s_copied f fd) : Binds K fd ["stand"] [] := F.binds fun _ _ _ _ _ _ us hl => match us, hl with | [_], _ => rfl
abbrev s_leads : Stmt := top 24
abbrev N_leads : List Str := ["work", "stand", "row", "step"]
theorem sc_leads : FnScope N_leads ["work", "stand"] (defScope s_leads) := ⟨rfl, rfl, rfl, by decide +kernel, rfl, by decide +kernel, by decide +kernel⟩
theorem bd_leads {K : PySem.W.Frag} {f : Addr} {fd : FuncData} (F : Fun K "leads" "leads" s_leads f fd) : Binds K fd ["work", "stand"] [] := F.binds fun _ _ _ _ _ _ us hl => match us, hl with | [_, _], _ => rfl
abbrev s_draws_of : Stmt := top 25
abbrev N_draws_of : List Str := ["work", "stand", "draws", "draw"]
theorem sc_draws_of : FnScope N_draws_of ["work", "stand"] (defScope s_draws_of) := ⟨rfl, rfl, rfl, by decide +kernel, rfl, by decide +kernel, by decide +kernel⟩
theorem bd_draws_of {K : PySem.W.Frag} {f : Addr} {fd : FuncData} (F : Fun K "draws_of" "draws_of" s_draws_of f fd) : Binds K fd ["work", "stand"] [] := F.binds fun _ _ _ _ _ _ us hl => match us, hl with | [_, _], _ => rfl
abbrev s_is_ringless : Stmt := top 26
abbrev N_is_ringless : List Str := ["work", "left", "settled", "going", "rest", "name", "to"]
theorem sc_is_ringless : FnScope N_is_ringless ["work"] (defScope s_is_ringless) := ⟨rfl, rfl, rfl, by decide +kernel, rfl, by decide +kernel, by decide +kernel⟩
theorem bd_is_ringless {K : PySem.W.Frag} {f : Addr} {fd : FuncData} (F : Fun K "is_ringless" "is_ringless" s_is_ringless f fd) : Binds K fd ["work"] [] := F.binds fun _ _ _ _ _ _ us hl => match us, hl with | [_], _ => rfl
abbrev s_Work_init : Stmt := inClass (top 27) 0
abbrev N_Work_init : List Str := ["self", "hands", "start", "stands", "name"]
theorem sc_Work_init : FnScope N_Work_init ["self", "hands", "start", "stands"] (defScope s_Work_init) := ⟨rfl, rfl, rfl, by decide +kernel, rfl, by decide +kernel, by decide +kernel⟩
theorem bd_Work_init {K : PySem.W.Frag} {f : Addr} {fd : FuncData} (F : Fun K "__init__" "Work.__init__" s_Work_init f fd) : Binds K fd ["self", "hands", "start", "stands"] [] := F.binds fun _ _ _ _ _ _ us hl => match us, hl with | [_, _, _, _], _ => rfl
abbrev s_Work_stands : Stmt := inClass (top 27) 1
abbrev N_Work_stands : List Str := ["self", "name"]
theorem sc_Work_stands : FnScope N_Work_stands ["self"] (defScope s_Work_stands) := ⟨rfl, rfl, rfl, by decide +kernel, rfl, by decide +kernel, by decide +kernel⟩
theorem bd_Work_stands {K : PySem.W.Frag} {f : Addr} {fd : FuncData} (F : Fun K "stands" "Work.stands" s_Work_stands f fd) : Binds K fd ["self"] [] := F.binds fun _ _ _ _ _ _ us hl => match us, hl with | [_], _ => rfl
abbrev s_Work_eq : Stmt := inClass (top 27) 2
abbrev N_Work_eq : List Str := ["self", "other"]
theorem sc_Work_eq : FnScope N_Work_eq ["self", "other"] (defScope s_Work_eq) := ⟨rfl, rfl, rfl, by decide +kernel, rfl, by decide +kernel, by decide +kernel⟩
theorem bd_Work_eq {K : PySem.W.Frag} {f : Addr} {fd : FuncData} (F : Fun K "__eq__" "Work.__eq__" s_Work_eq f fd) : Binds K fd ["self", "other"] [] := F.binds fun _ _ _ _ _ _ us hl => match us, hl with | [_, _], _ => rfl
abbrev s_Work_row : Stmt := inClass (top 27) 3
abbrev N_Work_row : List Str := ["self", "stand"]
theorem sc_Work_row : FnScope N_Work_row ["self", "stand"] (defScope s_Work_row) := ⟨rfl, rfl, rfl, by decide +kernel, rfl, by decide +kernel, by decide +kernel⟩
theorem bd_Work_row {K : PySem.W.Frag} {f : Addr} {fd : FuncData} (F : Fun K "row" "Work.row" s_Work_row f fd) : Binds K fd ["self", "stand"] [] := F.binds fun _ _ _ _ _ _ us hl => match us, hl with | [_, _], _ => rfl
abbrev s_Work_kind : Stmt := inClass (top 27) 4
abbrev N_Work_kind : List Str := ["self", "stand"]
theorem sc_Work_kind : FnScope N_Work_kind ["self", "stand"] (defScope s_Work_kind) := ⟨rfl, rfl, rfl, by decide +kernel, rfl, by decide +kernel, by decide +kernel⟩
theorem bd_Work_kind {K : PySem.W.Frag} {f : Addr} {fd : FuncData} (F : Fun K "kind" "Work.kind" s_Work_kind f fd) : Binds K fd ["self", "stand"] [] := F.binds fun _ _ _ _ _ _ us hl => match us, hl with | [_, _], _ => rfl
abbrev s_Work_mover : Stmt := inClass (top 27) 5
abbrev N_Work_mover : List Str := ["self", "stand"]
theorem sc_Work_mover : FnScope N_Work_mover ["self", "stand"] (defScope s_Work_mover) := ⟨rfl, rfl, rfl, by decide +kernel, rfl, by decide +kernel, by decide +kernel⟩
theorem bd_Work_mover {K : PySem.W.Frag} {f : Addr} {fd : FuncData} (F : Fun K "mover" "Work.mover" s_Work_mover f fd) : Binds K fd ["self", "stand"] [] := F.binds fun _ _ _ _ _ _ us hl => match us, hl with | [_, _], _ => rfl
abbrev s_Work_steps : Stmt := inClass (top 27) 6
abbrev N_Work_steps : List Str := ["self", "stand", "row"]
theorem sc_Work_steps : FnScope N_Work_steps ["self", "stand"] (defScope s_Work_steps) := ⟨rfl, rfl, rfl, by decide +kernel, rfl, by decide +kernel, by decide +kernel⟩
theorem bd_Work_steps {K : PySem.W.Frag} {f : Addr} {fd : FuncData} (F : Fun K "steps" "Work.steps" s_Work_steps f fd) : Binds K fd ["self", "stand"] [] := F.binds fun _ _ _ _ _ _ us hl => match us, hl with | [_, _], _ => rfl
abbrev s_Work_to : Stmt := inClass (top 27) 7
abbrev N_Work_to : List Str := ["self", "stand", "step", "row"]
theorem sc_Work_to : FnScope N_Work_to ["self", "stand", "step"] (defScope s_Work_to) := ⟨rfl, rfl, rfl, by decide +kernel, rfl, by decide +kernel, by decide +kernel⟩
theorem bd_Work_to {K : PySem.W.Frag} {f : Addr} {fd : FuncData} (F : Fun K "to" "Work.to" s_Work_to f fd) : Binds K fd ["self", "stand", "step"] [] := F.binds fun _ _ _ _ _ _ us hl => match us, hl with | [_, _, _], _ => rfl
abbrev s_Work_weight : Stmt := inClass (top 27) 8
abbrev N_Work_weight : List Str := ["self", "stand", "step", "row"]
theorem sc_Work_weight : FnScope N_Work_weight ["self", "stand", "step"] (defScope s_Work_weight) := ⟨rfl, rfl, rfl, by decide +kernel, rfl, by decide +kernel, by decide +kernel⟩
theorem bd_Work_weight {K : PySem.W.Frag} {f : Addr} {fd : FuncData} (F : Fun K "weight" "Work.weight" s_Work_weight f fd) : Binds K fd ["self", "stand", "step"] [] := F.binds fun _ _ _ _ _ _ us hl => match us, hl with | [_, _, _], _ => rfl
abbrev s_is_value : Stmt := top 29
abbrev N_is_value : List Str := ["thing"]
theorem sc_is_value : FnScope N_is_value ["thing"] (defScope s_is_value) := ⟨rfl, rfl, rfl, by decide +kernel, rfl, by decide +kernel, by decide +kernel⟩
theorem bd_is_value {K : PySem.W.Frag} {f : Addr} {fd : FuncData} (F : Fun K "is_value" "is_value" s_is_value f fd) : Binds K fd ["thing"] [] := F.binds fun _ _ _ _ _ _ us hl => match us, hl with | [_], _ => rfl
abbrev s_are_worths : Stmt := top 30
abbrev N_are_worths : List Str := ["thing", "name", "value"]
theorem sc_are_worths : FnScope N_are_worths ["thing"] (defScope s_are_worths) := ⟨rfl, rfl, rfl, by decide +kernel, rfl, by decide +kernel, by decide +kernel⟩
theorem bd_are_worths {K : PySem.W.Frag} {f : Addr} {fd : FuncData} (F : Fun K "are_worths" "are_worths" s_are_worths f fd) : Binds K fd ["thing"] [] := F.binds fun _ _ _ _ _ _ us hl => match us, hl with | [_], _ => rfl
abbrev s_Wish_init : Stmt := inClass (top 31) 0
abbrev N_Wish_init : List Str := ["self", "worths", "endless", "below", "above", "value", "name"]
theorem sc_Wish_init : FnScope N_Wish_init ["self", "worths", "endless"] (defScope s_Wish_init) := ⟨rfl, rfl, rfl, by decide +kernel, rfl, by decide +kernel, by decide +kernel⟩
theorem bd_Wish_init {K : PySem.W.Frag} {f : Addr} {fd : FuncData} (F : Fun K "__init__" "Wish.__init__" s_Wish_init f fd) : Binds K fd ["self", "worths", "endless"] [] := F.binds fun _ _ _ _ _ _ us hl => match us, hl with | [_, _, _], _ => rfl
abbrev s_Wish_worths : Stmt := inClass (top 31) 1
abbrev N_Wish_worths : List Str := ["self", "name"]
theorem sc_Wish_worths : FnScope N_Wish_worths ["self"] (defScope s_Wish_worths) := ⟨rfl, rfl, rfl, by decide +kernel, rfl, by decide +kernel, by decide +kernel⟩
theorem bd_Wish_worths {K : PySem.W.Frag} {f : Addr} {fd : FuncData} (F : Fun K "worths" "Wish.worths" s_Wish_worths f fd) : Binds K fd ["self"] [] := F.binds fun _ _ _ _ _ _ us hl => match us, hl with | [_], _ => rfl
abbrev s_Wish_eq : Stmt := inClass (top 31) 2
abbrev N_Wish_eq : List Str := ["self", "other"]
theorem sc_Wish_eq : FnScope N_Wish_eq ["self", "other"] (defScope s_Wish_eq) := ⟨rfl, rfl, rfl, by decide +kernel, rfl, by decide +kernel, by decide +kernel⟩
theorem bd_Wish_eq {K : PySem.W.Frag} {f : Addr} {fd : FuncData} (F : Fun K "__eq__" "Wish.__eq__" s_Wish_eq f fd) : Binds K fd ["self", "other"] [] := F.binds fun _ _ _ _ _ _ us hl => match us, hl with | [_, _], _ => rfl
abbrev s_is_entry : Stmt := top 33
abbrev N_is_entry : List Str := ["work", "lot", "stand", "entry", "row"]
theorem sc_is_entry : FnScope N_is_entry ["work", "lot", "stand", "entry"] (defScope s_is_entry) := ⟨rfl, rfl, rfl, by decide +kernel, rfl, by decide +kernel, by decide +kernel⟩
theorem bd_is_entry {K : PySem.W.Frag} {f : Addr} {fd : FuncData} (F : Fun K "is_entry" "is_entry" s_is_entry f fd) : Binds K fd ["work", "lot", "stand", "entry"] [] := F.binds fun _ _ _ _ _ _ us hl => match us, hl with | [_, _, _, _], _ => rfl
abbrev s_goals : Stmt := top 34
abbrev N_goals : List Str := ["work", "stand", "move"]
theorem sc_goals : FnScope N_goals ["work", "stand", "move"] (defScope s_goals) := ⟨rfl, rfl, rfl, by decide +kernel, rfl, by decide +kernel, by decide +kernel⟩
theorem bd_goals {K : PySem.W.Frag} {f : Addr} {fd : FuncData} (F : Fun K "goals" "goals" s_goals f fd) : Binds K fd ["work", "stand", "move"] [] := F.binds fun _ _ _ _ _ _ us hl => match us, hl with | [_, _, _], _ => rfl
abbrev s_is_hand_shown : Stmt := top 35
abbrev N_is_hand_shown : List Str := ["wish", "entry", "behind", "each"]
theorem sc_is_hand_shown : FnScope N_is_hand_shown ["wish", "entry", "behind"] (defScope s_is_hand_shown) := ⟨rfl, rfl, rfl, by decide +kernel, rfl, by decide +kernel, by decide +kernel⟩
theorem bd_is_hand_shown {K : PySem.W.Frag} {f : Addr} {fd : FuncData} (F : Fun K "is_hand_shown" "is_hand_shown" s_is_hand_shown f fd) : Binds K fd ["wish", "entry", "behind"] [] := F.binds fun _ _ _ _ _ _ us hl => match us, hl with | [_, _, _], _ => rfl
abbrev s_is_chance_shown : Stmt := top 36
abbrev N_is_chance_shown : List Str := ["wish", "entry", "behind", "weights", "each", "weight"]
theorem sc_is_chance_shown : FnScope N_is_chance_shown ["wish", "entry", "behind", "weights"] (defScope s_is_chance_shown) := ⟨rfl, rfl, rfl, by decide +kernel, rfl, by decide +kernel, by decide +kernel⟩
theorem bd_is_chance_shown {K : PySem.W.Frag} {f : Addr} {fd : FuncData} (F : Fun K "is_chance_shown" "is_chance_shown" s_is_chance_shown f fd) : Binds K fd ["wish", "entry", "behind", "weights"] [] := F.binds fun _ _ _ _ _ _ us hl => match us, hl with | [_, _, _, _], _ => rfl
abbrev s_is_shown : Stmt := top 37
abbrev N_is_shown : List Str := ["work", "wish", "stand", "thing", "entry", "row", "low", "behind", "entries", "to", "draw", "weight"]
theorem sc_is_shown : FnScope N_is_shown ["work", "wish", "stand", "thing"] (defScope s_is_shown) := ⟨rfl, rfl, rfl, by decide +kernel, rfl, by decide +kernel, by decide +kernel⟩
theorem bd_is_shown {K : PySem.W.Frag} {f : Addr} {fd : FuncData} (F : Fun K "is_shown" "is_shown" s_is_shown f fd) : Binds K fd ["work", "wish", "stand", "thing"] [] := F.binds fun _ _ _ _ _ _ us hl => match us, hl with | [_, _, _, _], _ => rfl
abbrev s_is_plan : Stmt := top 38
abbrev N_is_plan : List Str := ["work", "wish", "lot", "thing", "stand", "entry"]
theorem sc_is_plan : FnScope N_is_plan ["work", "wish", "lot", "thing"] (defScope s_is_plan) := ⟨rfl, rfl, rfl, by decide +kernel, rfl, by decide +kernel, by decide +kernel⟩
theorem bd_is_plan {K : PySem.W.Frag} {f : Addr} {fd : FuncData} (F : Fun K "is_plan" "is_plan" s_is_plan f fd) : Binds K fd ["work", "wish", "lot", "thing"] [] := F.binds fun _ _ _ _ _ _ us hl => match us, hl with | [_, _, _, _], _ => rfl
abbrev s_pool : Stmt := top 40
abbrev N_pool : List Str := ["_law_script", "_law_pool_here", "_law_k", "_law_number"]
theorem sc_pool : FnScope N_pool ["_law_script"] (defScope s_pool) := ⟨rfl, rfl, rfl, by decide +kernel, rfl, by decide +kernel, by decide +kernel⟩
theorem bd_pool {K : PySem.W.Frag} {f : Addr} {fd : FuncData} (F : Fun K "_law_pool" "_law_pool" s_pool f fd) : Binds K fd ["_law_script"] [] := F.binds fun _ _ _ _ _ _ us hl => match us, hl with | [_], _ => rfl
abbrev s_draw : Stmt := top 41
abbrev N_draw : List Str := ["_law_pool_here", "_law_many", "_law_found", "_law_mixed"]
theorem sc_draw : FnScope N_draw ["_law_pool_here", "_law_many"] (defScope s_draw) := ⟨rfl, rfl, rfl, by decide +kernel, rfl, by decide +kernel, by decide +kernel⟩
theorem bd_draw {K : PySem.W.Frag} {f : Addr} {fd : FuncData} (F : Fun K "_law_draw" "_law_draw" s_draw f fd) : Binds K fd ["_law_pool_here", "_law_many"] [] := F.binds fun _ _ _ _ _ _ us hl => match us, hl with | [_, _], _ => rfl
abbrev s_word : Stmt := top 42
abbrev N_word : List Str := ["_law_pool_here", "_law_longest", "_law_letters", "_law_signs", "_law_word_here", "_law_k"]
theorem sc_word : FnScope N_word ["_law_pool_here", "_law_longest"] (defScope s_word) := ⟨rfl, rfl, rfl, by decide +kernel, rfl, by decide +kernel, by decide +kernel⟩
theorem bd_word {K : PySem.W.Frag} {f : Addr} {fd : FuncData} (F : Fun K "_law_word" "_law_word" s_word f fd) : Binds K fd ["_law_pool_here", "_law_longest"] [] := F.binds fun _ _ _ _ _ _ us hl => match us, hl with | [_, _], _ => rfl
abbrev s_words : Stmt := top 43
abbrev N_words : List Str := ["_law_pool_here", "_law_many", "_law_longest", "_law_words_here", "_law_k", "_law_word_here", "_law_j"]
theorem sc_words : FnScope N_words ["_law_pool_here", "_law_many"] (defScope s_words) := ⟨rfl, rfl, rfl, by decide +kernel, rfl, by decide +kernel, by decide +kernel⟩
theorem bd_words {K : PySem.W.Frag} {f : Addr} {fd : FuncData} (F : Fun K "_law_words" "_law_words" s_words f fd) : Binds K fd ["_law_pool_here", "_law_many"] [] := F.binds fun _ _ _ _ _ _ us hl => match us, hl with | [_, _], _ => rfl
abbrev s_l_copy : Stmt := top 44
abbrev N_l_copy : List Str := ["_law_stands", "_law_found", "_law_name", "_law_row"]
theorem sc_l_copy : FnScope N_l_copy ["_law_stands"] (defScope s_l_copy) := ⟨rfl, rfl, rfl, by decide +kernel, rfl, by decide +kernel, by decide +kernel⟩
theorem bd_l_copy {K : PySem.W.Frag} {f : Addr} {fd : FuncData} (F : Fun K "_law_copy" "_law_copy" s_l_copy f fd) : Binds K fd ["_law_stands"] [] := F.binds fun _ _ _ _ _ _ us hl => match us, hl with | [_], _ => rfl
abbrev s_l_mover : Stmt := top 45
abbrev N_l_mover : List Str := ["_law_stands", "_law_name"]
theorem sc_l_mover : FnScope N_l_mover ["_law_stands", "_law_name"] (defScope s_l_mover) := ⟨rfl, rfl, rfl, by decide +kernel, rfl, by decide +kernel, by decide +kernel⟩
theorem bd_l_mover {K : PySem.W.Frag} {f : Addr} {fd : FuncData} (F : Fun K "_law_mover" "_law_mover" s_l_mover f fd) : Binds K fd ["_law_stands", "_law_name"] [] := F.binds fun _ _ _ _ _ _ us hl => match us, hl with | [_, _], _ => rfl
abbrev s_l_gcd : Stmt := top 46
abbrev N_l_gcd : List Str := ["_law_one", "_law_other", "_law_before"]
theorem sc_l_gcd : FnScope N_l_gcd ["_law_one", "_law_other"] (defScope s_l_gcd) := ⟨rfl, rfl, rfl, by decide +kernel, rfl, by decide +kernel, by decide +kernel⟩
theorem bd_l_gcd {K : PySem.W.Frag} {f : Addr} {fd : FuncData} (F : Fun K "_law_gcd" "_law_gcd" s_l_gcd f fd) : Binds K fd ["_law_one", "_law_other"] [] := F.binds fun _ _ _ _ _ _ us hl => match us, hl with | [_, _], _ => rfl
abbrev s_l_frac : Stmt := top 47
abbrev N_l_frac : List Str := ["_law_top", "_law_bottom", "_law_most"]
theorem sc_l_frac : FnScope N_l_frac ["_law_top", "_law_bottom"] (defScope s_l_frac) := ⟨rfl, rfl, rfl, by decide +kernel, rfl, by decide +kernel, by decide +kernel⟩
theorem bd_l_frac {K : PySem.W.Frag} {f : Addr} {fd : FuncData} (F : Fun K "_law_frac" "_law_frac" s_l_frac f fd) : Binds K fd ["_law_top", "_law_bottom"] [] := F.binds fun _ _ _ _ _ _ us hl => match us, hl with | [_, _], _ => rfl
abbrev s_l_round : Stmt := top 48
abbrev N_l_round : List Str := ["_law_pool_here", "_law_many", "_law_words_here", "_law_end", "_law_stands", "_law_out", "_law_k", "_law_to", "_law_kind"]
theorem sc_l_round : FnScope N_l_round ["_law_pool_here", "_law_many"] (defScope s_l_round) := ⟨rfl, rfl, rfl, by decide +kernel, rfl, by decide +kernel, by decide +kernel⟩
theorem bd_l_round {K : PySem.W.Frag} {f : Addr} {fd : FuncData} (F : Fun K "_law_round" "_law_round" s_l_round f fd) : Binds K fd ["_law_pool_here", "_law_many"] [] := F.binds fun _ _ _ _ _ _ us hl => match us, hl with | [_, _], _ => rfl
abbrev s_law : Stmt := top 49
abbrev N_law : List Str := ["_law_script", "_law_pool_here", "_law_many", "_law_lot", "_law_gap", "_law_endless", "_law_bound", "_law_ranks", "_law_words_here", "_law_out", "_law_stands", "_law_worth", "_law_work", "_law_wish", "_law_nowhere", "_law_led", "_law_k", "_law_move"]
theorem sc_law : FnScope N_law ["_law_script"] (defScope s_law) := ⟨rfl, rfl, rfl, by decide +kernel, rfl, by decide +kernel, by decide +kernel⟩
theorem bd_law {K : PySem.W.Frag} {f : Addr} {fd : FuncData} (F : Fun K "law" "law" s_law f fd) : Binds K fd ["_law_script"] [] := F.binds fun _ _ _ _ _ _ us hl => match us, hl with | [_], _ => rfl
end Law
namespace Law
open PySem PySem.Spec PyProof.Rows L2 Ox
local macro_rules | `(tactic| walk_at "hp") => `(tactic| first
  | assumption
  | exact upd_same
  | (refine (upd_ne ?_).trans ?_; (walk_at "ne"); (walk_at "hp")))
local macro_rules | `(tactic| walk_at "ne") => `(tactic| first
  | assumption
  | exact Ne.symm (by assumption)
  | exact ne_old (by assumption) (by walk_at "hp")
  | exact Ne.symm (ne_old (by assumption) (by walk_at "hp"))
  | exact ne_two (by walk_at "hp") (by walk_at "hp") (by intro z; cases z)
  | exact fun z => absurd z (by decide))
local macro_rules | `(tactic| walk_at "kd") => `(tactic| first
  | exact .non
  | exact .bl _
  | exact .int _
  | exact .str _
  | assumption
  | exact .lst (SqL.of (by walk_at "hp"))
  | exact .tup (SqT.of (by walk_at "hp"))
  | exact .dict (.inl (by walk_at "hp")))
local macro_rules | `(tactic| walk_at "cond") => `(tactic| first
  | omega
  | exact mulok_r (by omega) (by omega)
  | exact mulok_l (by omega) (by omega)
  | exact divok (by omega) (by omega)
  | exact divok2 (by omega) (by omega)
  | exact ⟨by omega, by decide +kernel⟩
  | decide +kernel)
local macro_rules | `(tactic| walk_at "go") => `(tactic| repeat (first
  | (with_reducible refine x_seq ?_)
  | (with_reducible refine x_next ?_)
  | (with_reducible refine x_brk ?_)
  | (with_reducible refine x_cont ?_)
  | (with_reducible refine x_ret ?_)
  | (with_reducible refine x_retN ?_)
  | (with_reducible refine x_set ?_)
  | (with_reducible refine x_if ?_)
  | (with_reducible refine x_drop ?_)
  | (with_reducible refine x_par ?_)
  | (with_reducible refine x_par2 ?_)
  | (with_reducible refine x_setL ?_)
  | ((with_reducible refine' x_var ?xh ?_); (case xh => exact rfl))
  | ((with_reducible refine' x_aug ?xh ?_); (case xh => exact rfl))
  | (with_reducible refine x_c ?_)
  | (with_reducible refine x_op ?_)
  | (with_reducible refine x_un ?_)
  | (with_reducible refine x_I0 ?_)
  | (with_reducible refine x_ipI ?_)
  | ((with_reducible refine x_I ?xh ?_); (case xh => walk_at "cond"))
  | (with_reducible refine x_U ?_)
  | (with_reducible refine x_eqI ?_)
  | (with_reducible refine x_eqS ?_)
  | (with_reducible refine x_eqB ?_)
  | (with_reducible refine x_neI ?_)
  | (with_reducible refine x_neS ?_)
  | (with_reducible refine x_neB ?_)
  | (with_reducible refine x_blV ?_)
  | (with_reducible refine x_bl ?_)
  | (with_reducible refine x_test ?_)
  | (with_reducible refine x_B ?_)
  | (with_reducible refine x_not ?_)
  | (with_reducible refine x_and ?_)
  | (with_reducible refine x_or ?_)
  | (with_reducible refine x_andV ?_)
  | (with_reducible refine x_orV ?_)
  | (with_reducible refine x_notV ?_)
  | (with_reducible refine x_ifE ?_)
  | (with_reducible refine x_chain ?_)
  | (with_reducible refine x_nil ?_)
  | (with_reducible refine x_cons ?_)
  | (with_reducible refine x_tup ?_)
  | (with_reducible refine x_lst ?_)
  | (with_reducible refine x_cb ?_)
  | (with_reducible refine x_call ?_)
  | (with_reducible refine x_make ?_)
  | (with_reducible refine x_Fld ?_)
  | (with_reducible refine x_forL ?_)
  | (with_reducible refine x_forT ?_)
  | (with_reducible refine x_forR ?_)
  | (with_reducible refine x_forR2 ?_)
  | (with_reducible refine x_forS ?_)
  | (with_reducible refine x_forK ?_)
  | (with_reducible refine x_forI ?_)
  | (with_reducible refine x_forV ?_)
  | (with_reducible refine x_g1 ?_)
  | (with_reducible refine x_lc ?_)
  | (with_reducible refine x_dc ?_)
  | (with_reducible refine x_yes1 ?_)
  | (with_reducible refine x_iK ?_)
  | (with_reducible refine x_iV ?_)
  | (with_reducible refine x_iI ?_)
  | (with_reducible refine x_iL ?_)
  | (with_reducible refine x_iT ?_)
  | (with_reducible refine x_iS ?_)
  | (with_reducible refine x_iR ?_)
  | (with_reducible refine x_dget ?_)
  | (with_reducible refine x_din ?_)
  | (with_reducible refine x_dnin ?_)
  | (with_reducible refine x_dput ?_)
  | (with_reducible refine x_newK ?_)
  | (with_reducible refine x_listV ?_)
  | (with_reducible refine x_sfld ?_)
  | (with_reducible refine x_revL ?_)
  | (with_reducible refine x_prop ?_)
  | (with_reducible refine x_sl ?_)
  | (with_reducible refine x_forE ?_)
  | (with_reducible refine x_mt ?_)
  | (with_reducible refine x_nopart ?_)
  | (with_reducible refine x_part ?_)
  | (with_reducible refine x_parti ?_)
  | (with_reducible refine x_bm ?_)
  | (with_reducible refine x_bm0 ?_)
  | (with_reducible refine x_intI ?_)
  | (with_reducible refine x_max2 ?_)
  | (with_reducible refine x_min2 ?_)
  | (with_reducible refine x_abs ?_)
  | (with_reducible refine x_isN ?_)
  | (with_reducible refine x_notN ?_)
  | (with_reducible refine x_inS ?_)
  | (with_reducible refine x_ninS ?_)
  | (with_reducible refine x_T ?_)
  | (with_reducible refine x_F ?_)
  | (with_reducible refine x_nT ?_)
  | (with_reducible refine x_nF ?_)
  | ((with_reducible refine' x_lenL ?xh ?_); (case xh => exact SqL.of (by walk_at "hp")))
  | ((with_reducible refine' x_tyL ?xh ?_); (case xh => exact SqL.of (by walk_at "hp")))
  ))
/-! ### the pool of draws: nothing is said of what is drawn but its bounds -/
def PoolOk (ns : List Int) : Prop := ∃ x r, ns = x :: r ∧ 0 ≤ x ∧ x < 2147483647 ∧ r.length ≤ 63
abbrev intsV (ns : List Int) : List V := ns.map V.int
def PoolAt (H : Hp) (p : Addr) : Prop := ∃ ns, H p = some (.lst (intsV ns)) ∧ PoolOk ns
def spPool (K : PySem.W.Frag) : Sp := fun vs H Q _ => ∃ (a : Addr) (ns : List Int), vs = [.ref a] ∧ SqL K H a (intsV ns) ∧ ns.length ≤ 63 ∧
  ∀ H' p, L2.Same H H' → H p = none → PoolAt H' p → Q (.ref p) H'
def spDraw : Sp := fun vs H Q _ => ∃ (p : Addr) (m : Int), vs = [.ref p, .int m] ∧ PoolAt H p ∧ 0 < m ∧ m < 2 ^ 200 ∧
  ∀ H' r, But p H H' → PoolAt H' p → 0 ≤ r → r < m → Q (.int r) H'
theorem intsV_at {ns : List Int} {j : Nat} {z : Int} (h : ns[j]? = some z) : atI (intsV ns) (j : Int) = some (.int z) := atI_nat (by rw [List.getElem?_map, h]; rfl)
section
variable {P : Program} {w : World} {K : PySem.W.Frag} {mg : Str → Option Value} {base : Heap}
theorem ok_draw {f : Addr} {fd : FuncData} (F : Fun K "_law_draw" "_law_draw" s_draw f fd) (Z_len : mg "len" = none) (Z_int : mg "int" = none) : FnOk P w K mg base CX0 1 f fd ["_law_pool_here", "_law_many"] spDraw := by
  refine F.ok sc_draw (fun vs H Q E h => ?_) (fun cdv A outer s H vs Q E hr h => ?_)
  · obtain ⟨_, _, rfl, _⟩ := h
    rfl
  · obtain ⟨p, m, rfl, ⟨ns, hp, x, r, rfl, hx, hx2, hl⟩, hm, hm2, k⟩ := h
    refine ⟨_, (pss_cons (ps_if (pt_cmpR op_gt (pe_callB call_lenA (by rfl) Z_len (by decide +kernel) (pa_cons (pv 0) pa_nil)) pe_int (nomark _))
      (pss_cons (ps_set (i := 2) sc_draw.nd rfl (Or.inl rfl) (pe_op op_mod (pe_callTy call_intA (by rfl) Z_int (by decide +kernel) (pa_cons (pe_ix ix_list (pv 0) pe_int (fun _ _ => rfl)) pa_nil)) (pv 1)))
      (pss_cons (ps_asg (pe_op op_fdivA (pe_ix ix_list (pv 0) pe_int (fun _ _ => rfl)) (pv 1)) (pg_sub (pv 0) pe_int set_list))
      (pss_cons (ps_if (pt_cmpR op_le (pe_ix ix_list (pv 0) pe_int (fun _ _ => rfl)) pe_int (nomark _))
      (pss_one (ps_expr (pe_bm PySem.F.plainAttrs_list PySem.F.slot_list_pop PySem.F.type_list_pop mt_popAt (pv 0) (pa_cons pe_int pa_nil))))
      pss_nil)
      (pss_one (ps_ret (pv 2))))))
      pss_nil)
      (pss_cons (ps_asg (pe_op op_mod (pe_callTy call_intA (by rfl) Z_int (by decide +kernel) (pa_cons (pe_op op_add (pe_op op_mulA (pe_ix ix_list (pv 0) pe_int (fun _ _ => rfl)) pe_int) pe_int) pa_nil)) pe_int) (pg_sub (pv 0) pe_int set_list))
      (pss_cons (ps_set (i := 3) sc_draw.nd rfl (Or.inl rfl) (pe_op op_mod (pe_callTy call_intA (by rfl) Z_int (by decide +kernel) (pa_cons (pe_op op_mulA (pe_ix ix_list (pv 0) pe_int (fun _ _ => rfl)) (pe_op op_add (pe_op op_fdivA (pe_ix ix_list (pv 0) pe_int (fun _ _ => rfl)) pe_int) pe_int)) pa_nil)) pe_int))
      (pss_one (ps_ret (pe_op op_mod (pe_callTy call_intA (by rfl) Z_int (by decide +kernel) (pa_cons (pe_op op_fdivA (pv 3) pe_int) pa_nil)) (pv 1))))))), ?_⟩
    walk_at "go"
    refine x_dec (fun hc => ?_) (fun hc => ?_)
    · cases r with
      | nil => simp at hc
      | cons y r =>
        walk_at "go"
        refine x_ixl 1 (SqL.of hp) rfl rfl ?_
        walk_at "go"
        refine x_ixl 1 (SqL.of hp) rfl rfl ?_
        walk_at "go"
        refine x_setl (j := 1) hp rfl (by simp) ?_
        walk_at "go"
        refine x_ixl 1 (SqL.of upd_same) rfl rfl ?_
        walk_at "go"
        have hmod := Int.emod_nonneg y (show m ≠ 0 by omega)
        have hmod2 := Int.emod_lt_of_pos y hm
        refine x_dec (fun hd => ?_) (fun hd => ?_)
        · walk_at "go"
          refine x_popAt (j := 1) (y := .int (y / m)) upd_same rfl rfl (by simp at hl ⊢; omega) ?_
          walk_at "go"
          exact k _ _ (But.refl.at_.at_) ⟨x :: r, upd_same, x, r, rfl, hx, hx2, by simp at hl; omega⟩ hmod hmod2
        · walk_at "go"
          exact k _ _ (But.refl.at_) ⟨x :: (y / m) :: r, upd_same, x, _, rfl, hx, hx2, by simpa using hl⟩ hmod hmod2
    · walk_at "go"
      refine x_ixl 0 (SqL.of hp) rfl rfl ?_
      walk_at "go"
      refine x_setl (j := 0) hp rfl (by simp) ?_
      walk_at "go"
      generalize hz : (x * 48271 + 30103) % 2147483647 = z
      have z0 : 0 ≤ z := by rw [← hz]; exact Int.emod_nonneg _ (by decide)
      have z1 : z < 2147483647 := by rw [← hz]; exact Int.emod_lt_of_pos _ (by decide)
      have ez : (intsV (x :: r)).set 0 (.int z) = intsV (z :: r) := rfl
      rw [ez]
      refine x_ixl 0 (SqL.of upd_same) rfl rfl ?_
      walk_at "go"
      refine x_ixl 0 (SqL.of upd_same) rfl rfl ?_
      walk_at "go"
      exact k _ _ (But.refl.at_) ⟨z :: r, upd_same, z, r, rfl, z0, z1, hl⟩ (Int.emod_nonneg _ (by omega)) (Int.emod_lt_of_pos _ hm)
theorem ok_pool {f : Addr} {fd : FuncData} (F : Fun K "_law_pool" "_law_pool" s_pool f fd) (Z_len : mg "len" = none) (Z_int : mg "int" = none) (Z_min : mg "min" = none) (Z_range : mg "range" = none) : FnOk P w K mg base CX0 1 f fd ["_law_script"] (spPool K) := by
  refine F.ok sc_pool (fun vs H Q E h => ?_) (fun cdv A outer s H vs Q E hr h => ?_)
  · obtain ⟨_, _, rfl, _⟩ := h
    rfl
  · obtain ⟨a, ns, rfl, hS, hlen, k⟩ := h
    refine ⟨_, (pss_cons (ps_set (i := 1) sc_pool.nd rfl (Or.inl rfl) (pe_lst (pa_cons (pe_op op_add (pe_op op_mod (pe_callB call_lenA (by rfl) Z_len (by decide +kernel) (pa_cons (pv 0) pa_nil)) pe_int) pe_int) pa_nil)))
      (pss_cons (ps_for PassesOwn.never rfl (pi_range1 rfl Z_range (pa_cons (pe_callB (call_min2A rfl) (by rfl) Z_min (by decide +kernel) (pa_cons pe_int (pa_cons (pe_callB call_lenA (by rfl) Z_len (by decide +kernel) (pa_cons (pv 0) pa_nil)) pa_nil))) pa_nil)) (pg_name (i := 2) sc_pool.nd rfl (Or.inl rfl))
      (pss_cons (ps_asg (pe_op op_mod (pe_callTy call_intA (by rfl) Z_int (by decide +kernel) (pa_cons (pe_op op_add (pe_op op_add (pe_op op_mulA (pe_ix ix_list (pv 1) pe_int (fun _ _ => rfl)) pe_int) (pe_op op_mod (pe_callTy call_intA (by rfl) Z_int (by decide +kernel) (pa_cons (pe_ix ix_list (pv 0) (pv 2) (fun _ _ => rfl)) pa_nil)) pe_int)) (pe_op op_mulA pe_int (pv 2))) pa_nil)) pe_int) (pg_sub (pv 1) pe_int set_list))
      (pss_one (ps_if (pt_cmpR op_ge (pe_ix ix_list (pv 0) (pv 2) (fun _ _ => rfl)) (pe_op op_powW pe_int pe_int) (nomark _))
      (pss_cons (ps_set (i := 3) sc_pool.nd rfl (Or.inl rfl) (pe_op op_mod (pe_callTy call_intA (by rfl) Z_int (by decide +kernel) (pa_cons (pe_ix ix_list (pv 0) (pv 2) (fun _ _ => rfl)) pa_nil)) (pe_op op_powW (pe_op op_powW pe_int pe_int) pe_int)))
      (pss_one (ps_if (pt_cmpR op_gt (pv 3) pe_int (nomark _))
      (pss_one (ps_expr (pe_bm PySem.F.plainAttrs_list PySem.F.slot_list_append PySem.F.type_list_append mt_append (pv 1) (pa_cons (pv 3) pa_nil))))
      pss_nil)))
      pss_nil))))
      (pss_one (ps_ret (pv 1))))), ?_⟩
    walk_at "go"
    refine x_lenL hS ?_
    walk_at "go"
    refine ⟨sz_le (by simp), fun p hp => ?_⟩
    walk_at "go"
    have s1 : L2.Same H (upd H p (.lst [.int (((intsV ns).length : Int) % 1009 + 17)])) := same_new hp
    refine x_lenL (s1.seq hS) ?_
    walk_at "go"
    have el : (intsV ns).length = ns.length := List.length_map ..
    refine lpR (fun i σ H' => ∃ v2 v3 ps, σ = [some (.ref a), some (.ref p), v2, v3] ∧ L2.Same H H' ∧ H' p = some (.lst (intsV ps)) ∧ PoolOk ps ∧ ps.length ≤ i + 1) ?_ ?_ ?_ ?_
    · rw [el]
      split <;> omega
    · exact ⟨none, none, [_], rfl, s1, upd_same, ⟨_, [], rfl, by omega, by omega, by simp⟩, by simp⟩
    · rintro i σ H' hi ⟨v2, v3, ps, rfl, s2, hps, ⟨x, r, rfl, hx, hx2, hl⟩, hlp⟩
      have hi2 : i < ns.length := by
        rw [el] at hi
        split at hi <;> omega
      have hi3 : i < 63 := by
        rw [el] at hi
        split at hi <;> omega
      obtain ⟨z, hz⟩ : ∃ z, ns[i]? = some z := ⟨_, List.getElem?_eq_getElem hi2⟩
      have hz2 : (intsV ns)[i]? = some (.int z) := by rw [List.getElem?_map, hz]; rfl
      walk_at "go"
      refine x_ixl 0 (SqL.of hps) rfl rfl ?_
      walk_at "go"
      refine x_ixl i (s2.seq hS) rfl hz2 ?_
      walk_at "go"
      refine x_setl (j := 0) hps rfl (by simp) ?_
      walk_at "go"
      generalize hq : (x * 69621 + z % 1000003 + 7 * (i : Int)) % 2147483647 = q
      have q0 : 0 ≤ q := by rw [← hq]; exact Int.emod_nonneg _ (by decide)
      have q1 : q < 2147483647 := by rw [← hq]; exact Int.emod_lt_of_pos _ (by decide)
      have e1 : (intsV (x :: r)).set 0 (.int q) = intsV (q :: r) := rfl
      rw [e1]
      have s3 : L2.Same H (upd H' p (.lst (intsV (q :: r)))) := same_upd s2 hp
      refine x_ixl i (s3.seq hS) rfl hz2 ?_
      walk_at "go"
      refine x_dec (fun hc => ?_) (fun hc => ?_)
      · walk_at "go"
        refine x_ixl i (s3.seq hS) rfl hz2 ?_
        walk_at "go"
        refine x_dec (fun hd => ?_) (fun hd => ?_)
        · walk_at "go"
          refine x_app upd_same (sz_lt (by simp at hlp ⊢; omega)) ?_
          walk_at "go"
          generalize z % (10 ^ Int.toNat 60) ^ Int.toNat 10 = y at hd ⊢
          exact ⟨_, _, q :: (r ++ [y]), rfl, same_upd s3 hp, by rw [upd_same]; simp [intsV], ⟨q, _, rfl, q0, q1, by simp at hlp ⊢; omega⟩, by simp at hlp ⊢; omega⟩
        · walk_at "go"
          exact ⟨_, _, q :: r, rfl, s3, upd_same, ⟨q, r, rfl, q0, q1, hl⟩, by simp at hlp ⊢; omega⟩
      · walk_at "go"
        exact ⟨_, _, q :: r, rfl, s3, upd_same, ⟨q, r, rfl, q0, q1, hl⟩, by simp at hlp ⊢; omega⟩
    · rintro σ H' ⟨v2, v3, ps, rfl, s2, hps, hok, hlp⟩
      walk_at "go"
      exact k _ _ s2 hp ⟨ps, hps, hok⟩
end
theorem PoolAt.upd {H : Hp} {p q : Addr} {o : HO} (h : PoolAt H p) (n : p ≠ q) : PoolAt (upd H q o) p := by
  obtain ⟨ns, e, ok⟩ := h
  exact ⟨ns, by rw [upd_ne n]; exact e, ok⟩
theorem PoolAt.new {H : Hp} {p q : Addr} {o : HO} (h : PoolAt H p) (n : H q = none) : PoolAt (L2.upd H q o) p := by
  obtain ⟨ns, e, ok⟩ := h
  exact ⟨ns, by rw [upd_ne (ne_of_none e n)]; exact e, ok⟩
theorem PoolAt.ne {H : Hp} {p q : Addr} (h : PoolAt H p) (n : H q = none) : q ≠ p := by
  obtain ⟨ns, e, ok⟩ := h
  exact fun z => by rw [z, e] at n; cases n
theorem PoolAt.same {H H' : Hp} {p : Addr} (h : PoolAt H p) (s : L2.Same H H') : PoolAt H' p := by
  obtain ⟨ns, e, ok⟩ := h
  exact ⟨ns, s _ _ e, ok⟩
theorem PoolAt.ned {H : Hp} {p d : Addr} {kvs : List (Key × V)} (h : PoolAt H p) (n : H d = some (.dK kvs)) : d ≠ p := by
  obtain ⟨ns, e, ok⟩ := h
  exact fun z => by rw [z, e] at n; cases n
def Side (e : Int) (l : List (Str × Int)) : Prop := (∀ p ∈ l, e ≤ p.2) ∨ (∀ p ∈ l, p.2 ≤ e)
/-! ### names -/
def lowC (d : Nat) : Prop := 97 ≤ d ∧ d ≤ 122
def sgnC (d : Nat) : Prop := (97 ≤ d ∧ d ≤ 122) ∨ (48 ≤ d ∧ d ≤ 57)
instance (d : Nat) : Decidable (lowC d) := inferInstanceAs (Decidable (_ ∧ _))
instance (d : Nat) : Decidable (sgnC d) := inferInstanceAs (Decidable (_ ∨ _))
/-- a name's signs -/
def NameL (l : List Nat) : Prop := ∃ d r, l = d :: r ∧ lowC d ∧ r.length ≤ 7 ∧ ∀ e ∈ r, sgnC e
def NameS (z : Str) : Prop := NameL z.cps.toList
theorem str_len (z : Str) : z.length = z.cps.toList.length := by show z.cps.size = _; simp
theorem tl_app (x y : Str) : (x ++ y).cps.toList = x.cps.toList ++ y.cps.toList := TL.tl_append x y
theorem NameS.len {z : Str} (h : NameS z) : z.length ≤ 8 := by
  obtain ⟨d, r, e, _, hl, _⟩ := h
  rw [str_len, e]
  simp
  omega
theorem letters_at : ∀ j < 26, ("abcdefghijklmnopqrstuvwxyz" : Str).cps.toList[j]? = some (97 + j) := by decide +kernel
theorem signs_at : ∀ j < 36, ∃ d, (("abcdefghijklmnopqrstuvwxyz" : Str) ++ ("0123456789" : Str)).cps.toList[j]? = some d ∧ sgnC d := by
  have h : ∀ j < 36, ((("abcdefghijklmnopqrstuvwxyz" : Str) ++ ("0123456789" : Str)).cps.toList[j]?).any (fun d => decide (sgnC d)) = true := by decide +kernel
  intro j hj
  have h1 := h j hj
  cases e : (("abcdefghijklmnopqrstuvwxyz" : Str) ++ ("0123456789" : Str)).cps.toList[j]? with
  | none => rw [e] at h1; cases h1
  | some d => rw [e] at h1; exact ⟨d, rfl, of_decide_eq_true h1⟩
def spWord : Sp := fun vs H Q _ => ∃ (p : Addr) (m : Int), vs = [.ref p, .int m] ∧ PoolAt H p ∧ 0 < m ∧ m ≤ 8 ∧
  ∀ H' z, But p H H' → PoolAt H' p → NameS z → Q (.str z) H'
section
variable {P : Program} {w : World} {K : PySem.W.Frag} {mg : Str → Option Value} {base : Heap}
theorem ok_word {f : Addr} {fd : FuncData} (F : Fun K "_law_word" "_law_word" s_word f fd) (Z_range : mg "range" = none) (C_draw : Cal P w K mg base 1 "_law_draw" ["_law_pool_here", "_law_many"] spDraw) : FnOk P w K mg base CX0 2 f fd ["_law_pool_here", "_law_longest"] spWord := by
  refine F.ok sc_word (fun vs H Q E h => ?_) (fun cdv A outer s H vs Q E hr h => ?_)
  · obtain ⟨_, _, rfl, _⟩ := h
    rfl
  · obtain ⟨p, m, rfl, hp, hm, hm2, k⟩ := h
    refine ⟨_, (pss_cons (ps_set (i := 2) sc_word.nd rfl (Or.inl rfl) pe_str)
      (pss_cons (ps_set (i := 3) sc_word.nd rfl (Or.inl rfl) (pe_op op_addSA (pv 2) pe_str))
      (pss_cons (ps_set (i := 4) sc_word.nd rfl (Or.inl rfl) (pe_ix ix_str (pv 2) (pe_cal C_draw (hr.mono (by decide)) (by rfl) (pa_cons (pv 0) (pa_cons pe_int pa_nil))) (fun _ _ => rfl)))
      (pss_cons (ps_for PassesOwn.never rfl (pi_range1 rfl Z_range (pa_cons (pe_cal C_draw (hr.mono (by decide)) (by rfl) (pa_cons (pv 0) (pa_cons (pv 1) pa_nil))) pa_nil)) (pg_name (i := 5) sc_word.nd rfl (Or.inl rfl))
      (pss_one (ps_set (i := 4) sc_word.nd rfl (Or.inl rfl) (pe_op op_addSA (pv 4) (pe_ix ix_str (pv 3) (pe_cal C_draw (hr.mono (by decide)) (by rfl) (pa_cons (pv 0) (pa_cons pe_int pa_nil))) (fun _ _ => rfl))))))
      (pss_one (ps_ret (pv 4))))))), ?_⟩
    walk_at "go"
    refine x_addS (by decide +kernel) ?_
    walk_at "go"
    refine ⟨p, 26, rfl, hp, by decide, by decide, fun H1 j b1 p1 j0 j1 => ?_⟩
    refine x_ixs j.toNat (by decide +kernel) (by omega) (letters_at _ (by omega)) ?_
    walk_at "go"
    refine ⟨p, m, rfl, p1, hm, by omega, fun H2 n b2 p2 n0 n1 => ?_⟩
    refine lpR (fun i σ H' => ∃ z v, σ = [some (.ref p), some (.int m), some (.str ("abcdefghijklmnopqrstuvwxyz" : Str)), some (.str (("abcdefghijklmnopqrstuvwxyz" : Str) ++ ("0123456789" : Str))), some (.str z), v] ∧ But p H H' ∧ PoolAt H' p ∧
      ∃ d r, z.cps.toList = d :: r ∧ lowC d ∧ r.length ≤ i ∧ ∀ e ∈ r, sgnC e) ?_ ?_ ?_ ?_
    · omega
    · exact ⟨_, none, rfl, b1.trans b2, p2, _, [], rfl, ⟨by omega, by omega⟩, by simp, by simp⟩
    · rintro i σ H' hi ⟨z, v, rfl, b3, p3, d, r, ez, hd, hl, hr2⟩
      walk_at "go"
      refine ⟨p, 36, rfl, p3, by decide, by decide, fun H4 j b4 p4 j2 j3 => ?_⟩
      obtain ⟨e, he, hs⟩ := signs_at j.toNat (by omega)
      refine x_ixs j.toNat (by decide +kernel) (by omega) he ?_
      refine x_addS (sz_le ?_) ?_
      · rw [str_len, ez]
        show _ + 1 ≤ _
        simp
        omega
      walk_at "go"
      refine ⟨_, _, rfl, b3.trans b4, p4, d, r ++ [e], ?_, hd, ?_, ?_⟩
      · rw [tl_app, ez]
        rfl
      · simp
        omega
      · intro x hx
        rcases List.mem_append.mp hx with hx | hx
        · exact hr2 x hx
        · rw [List.mem_singleton.mp hx]
          exact hs
    · rintro σ H' ⟨z, v, rfl, b3, p3, d, r, ez, hd, hl, hr2⟩
      walk_at "go"
      exact k _ _ b3 p3 ⟨d, r, ez, hd, by omega, hr2⟩
end
/-! ### several names, all different -/
def nmS (t : Nat) : Str := ("n" : Str) ++ Str.ofString (toString ((t : Nat) : Int))
theorem nmS_tl (t : Nat) : (nmS t).cps.toList = 110 :: TL.numL t := by
  unfold nmS
  rw [tl_app]
  have e : ("n" : Str).cps.toList = [110] := by decide +kernel
  rw [e]
  show 110 :: _ = _
  exact congrArg (List.cons 110) (TL.tl_num t)
theorem nmS_inj {a b : Nat} (h : nmS a = nmS b) : a = b := by
  have e := congrArg (fun z : Str => z.cps.toList) h
  simp only [nmS_tl, List.cons.injEq, true_and] at e
  exact TL.numL_inj e
theorem nmS_name {t : Nat} (h : t < 1000000) : NameS (nmS t) := by
  refine ⟨110, TL.numL t, nmS_tl t, ⟨by omega, by omega⟩, ?_, fun e he => ?_⟩
  · exact Nat.le_trans (TL.numL_len (k := 6) (by decide) (by simpa using h)) (by decide)
  · have := TL.numL_digits t e he
    exact .inr ⟨this.1, this.2⟩
abbrev strsV (ws : List Str) : List V := ws.map V.str
def spWords : Sp := fun vs H Q _ => ∃ (p : Addr) (m : Int), vs = [.ref p, .int m] ∧ PoolAt H p ∧ 0 ≤ m ∧ m ≤ 1000 ∧
  ∀ H' q ws, But p H H' → PoolAt H' p → H q = none → H' q = some (.lst (strsV ws)) → ws.length = m.toNat → (∀ z ∈ ws, NameS z) → ws.Nodup → Q (.ref q) H'
theorem all_nm {ws : List Str} {n : Nat} (h : ∀ t < n, nmS t ∈ ws) : n ≤ ws.length := by
  have nd : ((List.range n).map nmS).Nodup := by
    refine List.pairwise_map.mpr (List.Pairwise.imp (fun {a b} hab e => ?_) (List.nodup_range (n := n)))
    exact hab (nmS_inj e)
  have sub : ((List.range n).map nmS) ⊆ ws := fun x hx => by
    obtain ⟨t, ht, rfl⟩ := List.mem_map.mp hx
    exact h t (List.mem_range.mp ht)
  have := List.Nodup.length_le_of_subset nd sub
  simpa using this
section
variable {P : Program} {w : World} {K : PySem.W.Frag} {mg : Str → Option Value} {base : Heap}
theorem ok_words {f : Addr} {fd : FuncData} (F : Fun K "_law_words" "_law_words" s_words f fd) (Z_range : mg "range" = none) (Z_str : mg "str" = none) (C_draw : Cal P w K mg base 1 "_law_draw" ["_law_pool_here", "_law_many"] spDraw)
    (C_word : Cal P w K mg base 2 "_law_word" ["_law_pool_here", "_law_longest"] spWord) : FnOk P w K mg base CX0 3 f fd ["_law_pool_here", "_law_many"] spWords := by
  refine F.ok sc_words (fun vs H Q E h => ?_) (fun cdv A outer s H vs Q E hr h => ?_)
  · obtain ⟨_, _, rfl, _⟩ := h
    rfl
  · obtain ⟨p, m, rfl, hp, hm, hm2, k⟩ := h
    refine ⟨_, (pss_cons (ps_set (i := 2) sc_words.nd rfl (Or.inl rfl) (pe_ix ix_list (pe_lst (pa_cons pe_int (pa_cons pe_int (pa_cons pe_int (pa_cons pe_int pa_nil))))) (pe_cal C_draw (hr.mono (by decide)) (by rfl) (pa_cons (pv 0) (pa_cons pe_int pa_nil))) (fun _ _ => rfl)))
      (pss_cons (ps_set (i := 3) sc_words.nd rfl (Or.inl rfl) (pe_lst pa_nil))
      (pss_cons (ps_for PassesOwn.never rfl (pi_range1 rfl Z_range (pa_cons (pv 1) pa_nil)) (pg_name (i := 4) sc_words.nd rfl (Or.inl rfl))
      (pss_cons (ps_set (i := 5) sc_words.nd rfl (Or.inl rfl) (pe_cal C_word (hr.mono (by decide)) (by rfl) (pa_cons (pv 0) (pa_cons (pv 2) pa_nil))))
      (pss_cons (ps_for PassesOwn.never rfl (pi_range1 rfl Z_range (pa_cons (pe_op op_add (pv 1) pe_int) pa_nil)) (pg_name (i := 6) sc_words.nd rfl (Or.inl rfl))
      (pss_one (ps_if (pt_cmpR op_in_seq (pv 5) (pv 3) rfl)
      (pss_one (ps_set (i := 5) sc_words.nd rfl (Or.inl rfl) (pe_op op_addSA pe_str (pe_callTy call_strIA (by rfl) Z_str (by decide +kernel) (pa_cons (pv 6) pa_nil)))))
      pss_nil)))
      (pss_one (ps_expr (pe_bm PySem.F.plainAttrs_list PySem.F.slot_list_append PySem.F.type_list_append mt_append (pv 3) (pa_cons (pv 5) pa_nil)))))))
      (pss_one (ps_ret (pv 3)))))), ?_⟩
    walk_at "go"
    refine ⟨sz_le (by simp), fun l hl => ?_⟩
    have hp1 : PoolAt (upd H l (.lst [.int 1, .int 2, .int 3, .int 8])) p := by
      obtain ⟨ns, e, ok⟩ := hp
      exact ⟨ns, by rw [upd_ne (ne_of_none e hl)]; exact e, ok⟩
    walk_at "go"
    refine ⟨p, 4, rfl, hp1, by decide, by decide, fun H1 j b1 p1 j0 j1 => ?_⟩
    have npl : l ≠ p := by
      obtain ⟨ns, e, ok⟩ := hp
      exact fun z => by rw [z, e] at hl; cases hl
    have hl1 : H1 l = some (.lst [.int 1, .int 2, .int 3, .int 8]) := b1 l _ upd_same npl
    have bb : But p H H1 := fun q o e n => b1 q o (by rw [upd_ne (ne_of_none e hl)]; exact e) n
    obtain ⟨g, hg, hg1, hg2⟩ : ∃ g : Int, [V.int 1, V.int 2, V.int 3, V.int 8][j.toNat]? = some (.int g) ∧ 0 < g ∧ g ≤ 8 := by
      have h4 : j = 0 ∨ j = 1 ∨ j = 2 ∨ j = 3 := by omega
      rcases h4 with rfl | rfl | rfl | rfl
      · exact ⟨1, rfl, by omega, by omega⟩
      · exact ⟨2, rfl, by omega, by omega⟩
      · exact ⟨3, rfl, by omega, by omega⟩
      · exact ⟨8, rfl, by omega, by omega⟩
    refine x_ixl j.toNat (SqL.of hl1) (by omega) hg ?_
    walk_at "go"
    refine ⟨sz_le (by simp), fun q hq => ?_⟩
    walk_at "go"
    have npq : q ≠ p := by
      obtain ⟨ns, e, ok⟩ := p1
      exact fun z => by rw [z, e] at hq; cases hq
    have hq0 : H q = none := by
      cases e : H q with
      | none => rfl
      | some o => rw [bb q o e npq] at hq; cases hq
    refine lpR (fun i σ H' => ∃ ws v4 v5 v6, σ = [some (.ref p), some (.int m), some (.int g), some (.ref q), v4, v5, v6] ∧ But p H H' ∧ PoolAt H' p ∧ H' q = some (.lst (strsV ws)) ∧ ws.length = i ∧ (∀ z ∈ ws, NameS z) ∧ ws.Nodup) ?_ ?_ ?_ ?_
    · omega
    · refine ⟨[], none, none, none, rfl, bb.new hq, ?_, upd_same, rfl, by simp, List.nodup_nil⟩
      obtain ⟨ns, e, ok⟩ := p1
      exact ⟨ns, by rw [upd_ne npq.symm]; exact e, ok⟩
    · rintro i σ H' hi ⟨ws, v4, v5, v6, rfl, b2, p2, hw, hlen, hnm, hnd⟩
      walk_at "go"
      refine ⟨p, g, rfl, p2, hg1, hg2, fun H3 z b3 p3 hz => ?_⟩
      have hw3 : H3 q = some (.lst (strsV ws)) := b3 q _ hw npq
      walk_at "go"
      refine lpR (fun j σ H' => ∃ z v6, σ = [some (.ref p), some (.int m), some (.int g), some (.ref q), some (.int (i : Int)), some (.str z), v6] ∧ H' = H3 ∧ NameS z ∧ (z ∉ ws ∨ ∀ t < j, nmS t ∈ ws)) ?_ ?_ ?_ ?_
      · omega
      · exact ⟨z, _, rfl, rfl, hz, .inr fun t ht => absurd ht (by omega)⟩
      · rintro j σ H' hj ⟨z, v6, rfl, rfl, hz, hor⟩
        walk_at "go"
        refine x_inL (ws := ws) (SqL.of hw3) ?_
        walk_at "go"
        refine x_dec (fun hin => ?_) (fun hin => ?_)
        · have hall : ∀ t < j, nmS t ∈ ws := hor.resolve_left fun e => e hin
          walk_at "go"
          refine x_strI (Nat.lt_of_le_of_lt (Nat.log2_le_self _) (by omega)) ?_
          refine x_addS (i := ("n" : Str)) (j := Str.ofString (toString ((j : Nat) : Int))) (sz_le ?_) ?_
          · have := (nmS_name (t := j) (by omega)).len
            unfold nmS at this
            rw [str_len, tl_app, List.length_append, ← str_len, ← str_len] at this
            omega
          walk_at "go"
          refine ⟨nmS j, _, rfl, rfl, nmS_name (by omega), ?_⟩
          by_cases e : nmS j ∈ ws
          · refine .inr fun t ht => ?_
            by_cases et : t = j
            · rw [et]; exact e
            · exact hall t (by omega)
          · exact .inl e
        · walk_at "go"
          exact ⟨z, _, rfl, rfl, hz, .inl hin⟩
      · rintro σ H' ⟨z, v6, rfl, rfl, hz, hor⟩
        have hnot : z ∉ ws := by
          rcases hor with h | h
          · exact h
          · have := all_nm h
            omega
        walk_at "go"
        refine x_app hw3 (sz_lt (by simp; omega)) ?_
        walk_at "go"
        refine ⟨ws ++ [z], _, _, _, rfl, fun b o e n => ?_, ?_, by rw [upd_same]; simp [strsV], by simp [hlen], ?_, ?_⟩
        · rw [upd_ne (ne_of_none e hq0)]
          exact b3 b o (b2 b o e n) n
        · obtain ⟨ns, e, ok⟩ := p3
          exact ⟨ns, by rw [upd_ne npq.symm]; exact e, ok⟩
        · intro x hx
          rcases List.mem_append.mp hx with hx | hx
          · exact hnm x hx
          · rw [List.mem_singleton.mp hx]; exact hz
        · refine List.nodup_append.mpr ⟨hnd, by simp, fun a ha b hb e => ?_⟩
          rw [List.mem_singleton.mp hb] at e
          exact hnot (e ▸ ha)
    · rintro σ H' ⟨ws, v4, v5, v6, rfl, b2, p2, hw, hlen, hnm, hnd⟩
      walk_at "go"
      exact k _ _ ws b2 p2 hq0 hw hlen hnm hnd
end
/-! ### integers and names -/
def isIntK : Kn → Bool
  | .int => true
  | _ => false
def nameL : List Nat → Bool
  | [] => false
  | d :: r => decide (r.length ≤ 7) && (decide (lowC d) && r.all fun e => decide (sgnC e))
def nameV : V → Bool
  | .str z => nameL z.cps.toList
  | _ => false
theorem nameL_iff {l : List Nat} : nameL l = true ↔ NameL l := by
  cases l with
  | nil =>
    refine ⟨fun h => (by cases h), fun h => ?_⟩
    obtain ⟨d, r, e, _⟩ := h
    cases e
  | cons d r =>
    show (decide (r.length ≤ 7) && (decide (lowC d) && r.all fun e => decide (sgnC e))) = true ↔ _
    rw [Bool.and_eq_true, Bool.and_eq_true, decide_eq_true_iff, decide_eq_true_iff, List.all_eq_true]
    refine ⟨fun ⟨h1, h2, h3⟩ => ⟨d, r, rfl, h2, h1, fun e he => of_decide_eq_true (h3 e he)⟩, fun h => ?_⟩
    obtain ⟨d', r', e, h2, h1, h3⟩ := h
    injection e with e1 e2
    subst e1 e2
    exact ⟨h1, h2, fun e he => decide_eq_true (h3 e he)⟩
theorem NameS.v {z : Str} (h : NameS z) : nameV (.str z) = true := nameL_iff.mpr h
/-- a value of a known kind; a text not too long -/
def Fine (K : PySem.W.Frag) (H : Hp) (x : V) (k : Kn) : Prop := Kd K H x k ∧ ∀ z, x = .str z → z.length ≤ 10000
def spIsInt (K : PySem.W.Frag) : Sp := fun vs H Q _ => ∃ x k, vs = [x] ∧ Kd K H x k ∧ Q (.bl (isIntK k)) H
def spIsName (K : PySem.W.Frag) : Sp := fun vs H Q _ => ∃ x k, vs = [x] ∧ Fine K H x k ∧ Q (.bl (nameV x)) H
section
variable {P : Program} {w : World} {K : PySem.W.Frag} {mg : Str → Option Value} {base : Heap}
theorem ok_is_integer {f : Addr} {fd : FuncData} (F : Fun K "is_integer" "is_integer" s_is_integer f fd) (Z_int : mg "int" = none) (Z_bool : mg "bool" = none) (Z_isinstance : mg "isinstance" = none) : FnOk P w K mg base CX0 1 f fd ["thing"] (spIsInt K) := by
  refine F.ok sc_is_integer (fun vs H Q E h => ?_) (fun cdv A outer s H vs Q E hr h => ?_)
  · obtain ⟨_, _, rfl, _⟩ := h
    rfl
  · obtain ⟨x, k, rfl, hk, q⟩ := h
    refine ⟨_, (pss_one (ps_ret (pe_and (pe_callB call_isi (by rfl) Z_isinstance (by decide +kernel) (pa_cons (pv 0) (pa_cons (pe_bltn (v := .ty "int") (by rfl) Z_int (by decide +kernel) rfl) pa_nil))) (pe_one (pe_not (pe_callB call_isi (by rfl) Z_isinstance (by decide +kernel) (pa_cons (pv 0) (pa_cons (pe_bltn (v := .ty "bool") (by rfl) Z_bool (by decide +kernel) rfl) pa_nil)))))))), ?_⟩
    walk_at "go"
    refine x_isiInt hk ?_
    walk_at "go"
    cases k
    case int =>
      refine x_T ?_
      walk_at "go"
      refine x_isiBool hk ?_
      walk_at "go"
      exact q
    case bl =>
      refine x_T ?_
      walk_at "go"
      refine x_isiBool hk ?_
      walk_at "go"
      exact q
    all_goals
      refine x_F ?_
      exact q
theorem ok_is_name {f : Addr} {fd : FuncData} (F : Fun K "is_name" "is_name" s_is_name f fd) (Z_str : mg "str" = none) (Z_len : mg "len" = none) (Z_isinstance : mg "isinstance" = none) : FnOk P w K mg base CX0 1 f fd ["thing"] (spIsName K) := by
  refine F.ok sc_is_name (fun vs H Q E h => ?_) (fun cdv A outer s H vs Q E hr h => ?_)
  · obtain ⟨_, _, rfl, _⟩ := h
    rfl
  · obtain ⟨x, k, rfl, ⟨hk, hz⟩, q⟩ := h
    refine ⟨_, (pss_cons (ps_if (PW.pt (pw_or (pt_not (pt_val (pe_callB call_isi (by rfl) Z_isinstance (by decide +kernel) (pa_cons (pv 0) (pa_cons (pe_bltn (v := .ty "str") (by rfl) Z_str (by decide +kernel) rfl) pa_nil))))) (pw_or1 (pt_not (pt_chain op_le op_le pe_int (pe_callB call_lenA (by rfl) Z_len (by decide +kernel) (pa_cons (pv 0) pa_nil)) pe_int)))))
      (pss_one (ps_ret pe_bl))
      pss_nil)
      (pss_cons (ps_if (pt_not (pt_chain op_leS op_leS pe_str (pe_ix ix_str (pv 0) pe_int (fun _ _ => rfl)) pe_str))
      (pss_one (ps_ret pe_bl))
      pss_nil)
      (pss_cons (ps_for PassesOwn.never rfl (pi_str (pv 0)) (pg_name (i := 1) sc_is_name.nd rfl (Or.inl rfl))
      (pss_one (ps_if (PW.pt (pw_and (pt_not (pt_chain op_leS op_leS pe_str (pv 1) pe_str)) (pw_and1 (pt_not (pt_chain op_leS op_leS pe_str (pv 1) pe_str)))))
      (pss_one (ps_ret pe_bl))
      pss_nil)))
      (pss_one (ps_ret pe_bl))))), ?_⟩
    walk_at "go"
    refine x_isiStr hk ?_
    walk_at "go"
    have other : ∀ {x}, (∀ z, x ≠ V.str z) → nameV x = false := fun {x} h => by
      cases x with
      | str z => exact absurd rfl (h z)
      | _ => rfl
    cases hk with
    | str z =>
      have hzl := hz z rfl
      have hzs : z.length ≤ sizeLine := sz_le hzl
      refine x_nT ?_
      walk_at "go"
      refine x_lenS hzs ?_
      walk_at "go"
      have el := str_len z
      refine x_dec (fun h1 => ?_) (fun h1 => ?_)
      · walk_at "go"
        refine x_ndec (fun h8 => ?_) (fun h8 => ?_)
        · walk_at "go"
          have e : nameV (.str z) = false := by
            show nameL z.cps.toList = false
            cases ez : z.cps.toList with
            | nil => rfl
            | cons d r =>
              rw [el, ez] at h8
              simp at h8
              show (decide (r.length ≤ 7) && _) = false
              rw [decide_eq_false (by omega)]
              rfl
          rw [e] at q
          exact q
        · walk_at "go"
          cases ez : z.cps.toList with
          | nil =>
            rw [el, ez] at h1
            simp at h1
          | cons d r =>
            have hl7 : r.length ≤ 7 := by
              rw [el, ez] at h8
              simp at h8
              omega
            refine x_ixs 0 hzs rfl (by rw [ez]; rfl) ?_
            refine x_leL 97 chr_a ?_
            walk_at "go"
            have neg : ¬ lowC d → Q (.bl false) H := fun hn => by
              have e : nameV (.str z) = false := by
                show nameL z.cps.toList = false
                rw [ez]
                show (decide (r.length ≤ 7) && (decide (lowC d) && _)) = false
                rw [decide_eq_false hn]
                simp
              rw [e] at q
              exact q
            refine x_dec (fun ha => ?_) (fun ha => ?_)
            · walk_at "go"
              refine x_leR 122 chr_z ?_
              walk_at "go"
              refine x_ndec (fun hb => ?_) (fun hb => ?_)
              · walk_at "go"
                exact neg fun hl => hb hl.2
              · walk_at "go"
                have hlow : lowC d := ⟨ha, hb⟩
                refine lpS (fun i σ H' => ∃ v, σ = [some (.str z), v] ∧ H' = H ∧ ∀ j < i, ∃ e, (d :: r)[j]? = some e ∧ sgnC e) ?_ ?_ ?_
                · exact ⟨none, rfl, rfl, fun j hj => absurd hj (by omega)⟩
                · rintro i e σ H' hi ⟨v, rfl, rfl, hall⟩
                  have hi2 : (d :: r)[i]? = some e := by rw [← ez, Array.getElem?_toList]; exact hi
                  have bad : ¬ sgnC e → Q (.bl false) H' := fun hn => by
                    have e0 : nameV (.str z) = false := by
                      show nameL z.cps.toList = false
                      rw [ez]
                      cases i with
                      | zero =>
                        have : d = e := Option.some.inj hi2
                        subst this
                        exact absurd (.inl hlow) hn
                      | succ i =>
                        have hm : e ∈ r := List.mem_of_getElem? (i := i) hi2
                        have : (r.all fun e => decide (sgnC e)) = false := by
                          cases ea : (r.all fun e => decide (sgnC e)) with
                          | false => rfl
                          | true => exact absurd (of_decide_eq_true (List.all_eq_true.mp ea e hm)) hn
                        show (decide (r.length ≤ 7) && (decide (lowC d) && (r.all fun e => decide (sgnC e)))) = false
                        rw [this]
                        simp
                    rw [e0] at q
                    exact q
                  have good : sgnC e → ∀ j < i + 1, ∃ e, (d :: r)[j]? = some e ∧ sgnC e := fun hg j hj => by
                    by_cases ej : j = i
                    · subst ej; exact ⟨e, hi2, hg⟩
                    · exact hall j (by omega)
                  walk_at "go"
                  refine x_leL 97 chr_a ?_
                  walk_at "go"
                  have second : ¬ (97 ≤ e ∧ e ≤ 122) → (48 ≤ e ∧ e ≤ 57 → sgnC e) := fun _ h => .inr h
                  refine x_dec (fun ha => ?_) (fun ha => ?_)
                  · walk_at "go"
                    refine x_leR 122 chr_z ?_
                    walk_at "go"
                    refine x_ndec (fun hb => ?_) (fun hb => ?_)
                    · walk_at "go"
                      refine x_leL 48 chr_0 ?_
                      walk_at "go"
                      refine x_dec (fun hc => ?_) (fun hc => ?_)
                      · walk_at "go"
                        refine x_leR 57 chr_9 ?_
                        walk_at "go"
                        refine x_ndec (fun hd => ?_) (fun hd => ?_)
                        · walk_at "go"
                          exact bad fun hs => by rcases hs with hs | hs <;> omega
                        · walk_at "go"
                          exact ⟨_, rfl, rfl, good (.inr ⟨hc, hd⟩)⟩
                      · walk_at "go"
                        exact bad fun hs => by rcases hs with hs | hs <;> omega
                    · walk_at "go"
                      exact ⟨_, rfl, rfl, good (.inl ⟨ha, hb⟩)⟩
                  · walk_at "go"
                    refine x_leL 48 chr_0 ?_
                    walk_at "go"
                    refine x_dec (fun hc => ?_) (fun hc => ?_)
                    · walk_at "go"
                      refine x_leR 57 chr_9 ?_
                      walk_at "go"
                      refine x_ndec (fun hd => ?_) (fun hd => ?_)
                      · walk_at "go"
                        exact bad fun hs => by rcases hs with hs | hs <;> omega
                      · walk_at "go"
                        exact ⟨_, rfl, rfl, good (.inr ⟨hc, hd⟩)⟩
                    · walk_at "go"
                      exact bad fun hs => by rcases hs with hs | hs <;> omega
                · rintro σ H' ⟨v, rfl, rfl, hall⟩
                  walk_at "go"
                  have e : nameV (.str z) = true := by
                    refine nameL_iff.mpr ⟨d, r, ez, hlow, hl7, fun e he => ?_⟩
                    obtain ⟨j, hj, hje⟩ := List.getElem_of_mem he
                    obtain ⟨e', h1, h2⟩ := hall (j + 1) (by
                      have : z.cps.size = (d :: r).length := by rw [← ez]; simp
                      rw [this]
                      simp
                      exact hj)
                    have h3 : (d :: r)[j + 1]? = some e := by
                      show r[j]? = some e
                      rw [List.getElem?_eq_getElem hj, hje]
                    rw [h3] at h1
                    cases h1
                    exact h2
                  rw [e] at q
                  exact q
            · walk_at "go"
              exact neg fun hl => ha hl.1
      · walk_at "go"
        have e : nameV (.str z) = false := by
          show nameL z.cps.toList = false
          cases ez : z.cps.toList with
          | nil => rfl
          | cons d r =>
            rw [el, ez] at h1
            simp at h1
            omega
        rw [e] at q
        exact q
    | non => rw [other (fun z => by simp)] at q; refine x_nF ?_; walk_at "go"; exact q
    | bl b => rw [other (fun z => by simp)] at q; refine x_nF ?_; walk_at "go"; exact q
    | int i => rw [other (fun z => by simp)] at q; refine x_nF ?_; walk_at "go"; exact q
    | lst h => rw [other (fun z => by simp)] at q; refine x_nF ?_; walk_at "go"; exact q
    | tup h => rw [other (fun z => by simp)] at q; refine x_nF ?_; walk_at "go"; exact q
    | dict h => rw [other (fun z => by simp)] at q; refine x_nF ?_; walk_at "go"; exact q
end
/-! ### works: the judges, of what is right -/
/-- a stand -/
inductive Sd where
  | fin
  | chance (l : List (Str × (Str × Int)))
  | hand (k : Int) (l : List (Str × Str))
/-- a dict of references, each of which stands for something -/
structure DictOf {α : Type} (R : Hp → Addr → α → Prop) (H : Hp) (d : Addr) (l : List (Str × α)) : Prop where
  ex : ∃ m : List (Str × Addr), H d = some (.dK (strK V.ref m)) ∧ m.map (·.1) = l.map (·.1) ∧ ∀ z a, (z, a) ∈ m → ∃ x, l.lookup z = some x ∧ R H a x
def PairAt (H : Hp) (a : Addr) (x : Str × Int) : Prop := H a = some (.tup [.str x.1, .int x.2])
def SdAt (H : Hp) (a : Addr) : Sd → Prop
  | .fin => H a = some (.tup [.str "end"])
  | .chance l => ∃ d, H a = some (.tup [.str "chance", .ref d]) ∧ DictOf PairAt H d l
  | .hand k l => ∃ d, H a = some (.tup [.str "hand", .int k, .ref d]) ∧ H d = some (.dK (strK V.str l))
theorem DictOf.imp {α : Type} {R : Hp → Addr → α → Prop} {H H' : Hp} {d : Addr} {l : List (Str × α)} (h : DictOf R H d l) (s : L2.Same H H') (hR : ∀ a x, R H a x → R H' a x) : DictOf R H' d l := by
  obtain ⟨m, h1, h2, h3⟩ := h.ex
  exact ⟨m, s _ _ h1, h2, fun z a hm => by
    obtain ⟨x, e, r⟩ := h3 z a hm
    exact ⟨x, e, hR _ _ r⟩⟩
theorem SdAt.same {H H' : Hp} {a : Addr} {x : Sd} (h : SdAt H a x) (s : L2.Same H H') : SdAt H' a x := by
  cases x with
  | fin => exact s _ _ h
  | chance l =>
    obtain ⟨d, h1, h2⟩ := h
    exact ⟨d, s _ _ h1, h2.imp s fun _ _ h => s _ _ h⟩
  | hand k l =>
    obtain ⟨d, h1, h2⟩ := h
    exact ⟨d, s _ _ h1, s _ _ h2⟩
theorem DictOf.same {H H' : Hp} {d : Addr} {l : List (Str × Sd)} (h : DictOf SdAt H d l) (s : L2.Same H H') : DictOf SdAt H' d l := h.imp s fun _ _ h => h.same s
/-- a right stand, of names ns and less than h hands -/
def GoodSd (h : Int) (ns : List Str) : Sd → Prop
  | .fin => True
  | .chance l => (l.map (·.1)).Nodup ∧ 1 ≤ l.length ∧ l.length ≤ 4 ∧ ∀ q ∈ l, NameS q.1 ∧ q.2.1 ∈ ns ∧ 1 ≤ q.2.2 ∧ q.2.2 ≤ 9
  | .hand k l => 0 ≤ k ∧ k < h ∧ (l.map (·.1)).Nodup ∧ 1 ≤ l.length ∧ l.length ≤ 4 ∧ ∀ q ∈ l, NameS q.1 ∧ q.2 ∈ ns
theorem x_name {K : PySem.W.Frag} {H : Hp} {Q : VK} {E : XK} {z : Str} (g : NameS z) (q : Q (.bl true) H) : spIsName K [.str z] H Q E :=
  ⟨.str z, .str, rfl, ⟨.str z, fun z' e => by cases e; exact Nat.le_trans g.len (by decide)⟩, by rw [g.v]; exact q⟩
def spIsPair (K : PySem.W.Frag) : Sp := fun vs H Q _ => ∃ a xs, vs = [.ref a] ∧ SqT K H a xs ∧ Q (.bl (decide (xs.length = 2))) H
def spIsMoves : Sp := fun vs H Q _ => ∃ (d n : Addr) (l : List (Str × Str)) (m : List (Str × Addr)), vs = [.ref d, .ref n] ∧ H d = some (.dK (strK V.str l)) ∧ n ≠ d ∧ Rd H n (.dK (strK V.ref m)) ∧ 1 ≤ l.length ∧ l.length ≤ 4 ∧
  (∀ q ∈ l, NameS q.1 ∧ NameS q.2 ∧ q.2 ∈ m.map (·.1)) ∧ ∀ H', L2.Same H H' → Q (.bl true) H'
def spIsDraws : Sp := fun vs H Q _ => ∃ (d n : Addr) (l : List (Str × (Str × Int))) (m : List (Str × Addr)), vs = [.ref d, .ref n] ∧ DictOf PairAt H d l ∧ n ≠ d ∧ Rd H n (.dK (strK V.ref m)) ∧ 1 ≤ l.length ∧ l.length ≤ 4 ∧
  (∀ z q, l.lookup z = some q → NameS z ∧ NameS q.1 ∧ q.1 ∈ m.map (·.1) ∧ 1 ≤ q.2 ∧ q.2 ≤ 9) ∧ ∀ H', L2.Same H H' → Q (.bl true) H'
theorem keyIn {m : List (Str × Addr)} {z : Str} (h : z ∈ m.map (·.1)) : (m.lookup z).isSome = true := by
  obtain ⟨x, hx⟩ := lookup_isSome h
  rw [hx]
  rfl
section
variable {P : Program} {w : World} {K : PySem.W.Frag} {mg : Str → Option Value} {base : Heap}
theorem ok_is_pair {f : Addr} {fd : FuncData} (F : Fun K "is_pair" "is_pair" s_is_pair f fd) (Z_tuple : mg "tuple" = none) (Z_len : mg "len" = none) (Z_isinstance : mg "isinstance" = none) : FnOk P w K mg base CX0 1 f fd ["thing"] (spIsPair K) := by
  refine F.ok sc_is_pair (fun vs H Q E h => ?_) (fun cdv A outer s H vs Q E hr h => ?_)
  · obtain ⟨_, _, rfl, _⟩ := h
    rfl
  · obtain ⟨a, xs, rfl, ha, q⟩ := h
    refine ⟨_, (pss_one (ps_ret (pe_and (pe_callB call_isi (by rfl) Z_isinstance (by decide +kernel) (pa_cons (pv 0) (pa_cons (pe_bltn (v := .ty "tuple") (by rfl) Z_tuple (by decide +kernel) rfl) pa_nil))) (pe_one (pe_cmpR op_eq (pe_callB call_lenA (by rfl) Z_len (by decide +kernel) (pa_cons (pv 0) pa_nil)) pe_int (nomark _)))))), ?_⟩
    walk_at "go"
    refine x_isiTup (.tup ha) ?_
    walk_at "go"
    refine x_T ?_
    walk_at "go"
    refine x_lenT ha ?_
    walk_at "go"
    have e : decide ((xs.length : Int) = 2) = decide (xs.length = 2) := decide_eq_decide.mpr (by omega)
    rw [e]
    exact q
theorem ok_is_moves {f : Addr} {fd : FuncData} (F : Fun K "is_moves" "is_moves" s_is_moves f fd) (Z_dict : mg "dict" = none) (Z_len : mg "len" = none) (Z_isinstance : mg "isinstance" = none)
    (C_is_name : Cal P w K mg base 1 "is_name" ["thing"] (spIsName K)) : FnOk P w K mg base CX0 2 f fd ["thing", "names"] spIsMoves := by
  refine F.ok sc_is_moves (fun vs H Q E h => ?_) (fun cdv A outer s H vs Q E hr h => ?_)
  · obtain ⟨_, _, _, _, rfl, _⟩ := h
    rfl
  · obtain ⟨d, n, l, m, rfl, hd, nd, hn, l1, l4, hg, q⟩ := h
    have hu := hu_of hr
    refine ⟨_, (pss_cons (ps_if (PW.pt (pw_or (pt_not (pt_val (pe_callB call_isi (by rfl) Z_isinstance (by decide +kernel) (pa_cons (pv 0) (pa_cons (pe_bltn (v := .ty "dict") (by rfl) Z_dict (by decide +kernel) rfl) pa_nil))))) (pw_or1 (pt_not (pt_chain op_le op_le pe_int (pe_callB call_lenDA (by rfl) Z_len (by decide +kernel) (pa_cons (pv 0) pa_nil)) pe_int)))))
      (pss_one (ps_ret pe_bl))
      pss_nil)
      (pss_cons (ps_lock (ps_for PassesOwn.never rfl (pi_items (pv 0)) (pg_tup rfl (pgs_cons (pg_name (i := 2) sc_is_moves.nd rfl (Or.inl rfl)) (pgs_cons (pg_name (i := 3) sc_is_moves.nd rfl (Or.inl rfl)) pgs_nil)))
      (pss_one (ps_if (PW.pt (pw_or (pt_not (pt_val (pe_cal C_is_name (hr.mono (by decide)) (by rfl) (pa_cons (pv 2) pa_nil)))) (pw_or (pt_not (pt_val (pe_cal C_is_name (hr.mono (by decide)) (by rfl) (pa_cons (pv 3) pa_nil)))) (pw_or1 (pt_cmp (pc_dnotin hu (pv 3) (pv 1)))))))
      (pss_one (ps_ret pe_bl))
      pss_nil))))
      (pss_one (ps_ret pe_bl)))), ?_⟩
    have hl : (strK V.str l).length = l.length := List.length_map ..
    walk_at "go"
    refine x_isiDict (.dict (.inl hd)) ?_
    walk_at "go"
    refine x_nT ?_
    walk_at "go"
    refine x_lenD (.inl hd) ?_
    rw [hl]
    walk_at "go"
    refine x_yes (by omega) ?_
    walk_at "go"
    refine x_nyes (by omega) ?_
    walk_at "go"
    refine x_lock hd trivial fun od => ?_
    walk_at "go"
    refine lpI (kvs := strK V.str l) (fun i σ H' => ∃ v1 v2, σ = [some (.ref d), some (.ref n), v1, v2] ∧ L2.Same (upd H d (.frz od (.dK (strK V.str l)))) H') upd_same ?_ ?_ ?_ ?_
    · exact ⟨none, none, rfl, L2.Same.refl _⟩
    · exact fun i σ H' _ ⟨_, _, _, s1⟩ => s1 d _ upd_same
    · rintro i k0 v0 σ H' T hi ⟨v1, v2, rfl, s1⟩ hT
      obtain ⟨z, x, rfl, rfl, hlx⟩ := strK_at hi
      obtain ⟨g1, g2, g3⟩ := hg _ (List.mem_of_getElem? hlx)
      have s2 : L2.Same (upd H d (.frz od (.dK (strK V.str l)))) (upd H' T (.tup [kV (Sum.inr z), .str x])) := same_upd s1 (s1.free hT)
      refine x_g2 (SqT.of upd_same) ?_
      walk_at "go"
      refine x_name g1 ?_
      walk_at "go"
      refine x_name g2 ?_
      walk_at "go"
      refine x_ninD (l := m) (same_rd s2 (rd_held nd hn)) ?_
      rw [keyIn g3]
      refine ⟨false, rfl, x_F ?_⟩
      walk_at "go"
      exact ⟨_, _, rfl, s2⟩
    · rintro σ H' ⟨v1, v2, rfl, s1⟩
      refine ⟨s1 d _ upd_same, ?_⟩
      walk_at "go"
      exact q _ (same_back hd s1)
theorem ok_is_draws {f : Addr} {fd : FuncData} (F : Fun K "is_draws" "is_draws" s_is_draws f fd) (Z_dict : mg "dict" = none) (Z_len : mg "len" = none) (Z_isinstance : mg "isinstance" = none)
    (C_is_name : Cal P w K mg base 1 "is_name" ["thing"] (spIsName K)) (C_is_pair : Cal P w K mg base 1 "is_pair" ["thing"] (spIsPair K)) (C_is_integer : Cal P w K mg base 1 "is_integer" ["thing"] (spIsInt K)) : FnOk P w K mg base CX0 2 f fd ["thing", "names"] spIsDraws := by
  refine F.ok sc_is_draws (fun vs H Q E h => ?_) (fun cdv A outer s H vs Q E hr h => ?_)
  · obtain ⟨_, _, _, _, rfl, _⟩ := h
    rfl
  · obtain ⟨d, n, l, m, rfl, hD, nd, hn, l1, l4, hg, q⟩ := h
    obtain ⟨p, hd, hk, hp⟩ := hD.ex
    have hu := hu_of hr
    refine ⟨_, (pss_cons (ps_if (PW.pt (pw_or (pt_not (pt_val (pe_callB call_isi (by rfl) Z_isinstance (by decide +kernel) (pa_cons (pv 0) (pa_cons (pe_bltn (v := .ty "dict") (by rfl) Z_dict (by decide +kernel) rfl) pa_nil))))) (pw_or1 (pt_not (pt_chain op_le op_le pe_int (pe_callB call_lenDA (by rfl) Z_len (by decide +kernel) (pa_cons (pv 0) pa_nil)) pe_int)))))
      (pss_one (ps_ret pe_bl))
      pss_nil)
      (pss_cons (ps_lock (ps_for PassesOwn.never rfl (pi_items (pv 0)) (pg_tup rfl (pgs_cons (pg_name (i := 2) sc_is_draws.nd rfl (Or.inl rfl)) (pgs_cons (pg_name (i := 3) sc_is_draws.nd rfl (Or.inl rfl)) pgs_nil)))
      (pss_cons (ps_if (PW.pt (pw_or (pt_not (pt_val (pe_cal C_is_name (hr.mono (by decide)) (by rfl) (pa_cons (pv 2) pa_nil)))) (pw_or1 (pt_not (pt_val (pe_cal C_is_pair (hr.mono (by decide)) (by rfl) (pa_cons (pv 3) pa_nil)))))))
      (pss_one (ps_ret pe_bl))
      pss_nil)
      (pss_cons (ps_if (PW.pt (pw_or (pt_not (pt_val (pe_cal C_is_name (hr.mono (by decide)) (by rfl) (pa_cons (pe_ix ix_tup (pv 3) pe_int (fun _ _ => rfl)) pa_nil)))) (pw_or1 (pt_cmp (pc_dnotin hu (pe_ix ix_tup (pv 3) pe_int (fun _ _ => rfl)) (pv 1))))))
      (pss_one (ps_ret pe_bl))
      pss_nil)
      (pss_one (ps_if (PW.pt (pw_or (pt_not (pt_val (pe_cal C_is_integer (hr.mono (by decide)) (by rfl) (pa_cons (pe_ix ix_tup (pv 3) pe_int (fun _ _ => rfl)) pa_nil)))) (pw_or1 (pt_not (pt_chain op_le op_le pe_int (pe_ix ix_tup (pv 3) pe_int (fun _ _ => rfl)) pe_int)))))
      (pss_one (ps_ret pe_bl))
      pss_nil))))))
      (pss_one (ps_ret pe_bl)))), ?_⟩
    have hl : (strK V.ref p).length = l.length := by
      rw [List.length_map]
      have := congrArg List.length hk
      rwa [List.length_map, List.length_map] at this
    walk_at "go"
    refine x_isiDict (.dict (.inl hd)) ?_
    walk_at "go"
    refine x_nT ?_
    walk_at "go"
    refine x_lenD (.inl hd) ?_
    rw [hl]
    walk_at "go"
    refine x_yes (by omega) ?_
    walk_at "go"
    refine x_nyes (by omega) ?_
    walk_at "go"
    refine x_lock hd trivial fun od => ?_
    walk_at "go"
    refine lpI (kvs := strK V.ref p) (fun i σ H' => ∃ v1 v2, σ = [some (.ref d), some (.ref n), v1, v2] ∧ L2.Same (upd H d (.frz od (.dK (strK V.ref p)))) H') upd_same ?_ ?_ ?_ ?_
    · exact ⟨none, none, rfl, L2.Same.refl _⟩
    · exact fun i σ H' _ ⟨_, _, _, s1⟩ => s1 d _ upd_same
    · rintro i k0 v0 σ H' T hi ⟨v1, v2, rfl, s1⟩ hT
      obtain ⟨z, x, rfl, rfl, hlx⟩ := strK_at hi
      obtain ⟨y, hy, hx⟩ := hp _ _ (List.mem_of_getElem? hlx)
      obtain ⟨g1, g2, g3, g4, g5⟩ := hg _ _ hy
      have s2 : L2.Same (upd H d (.frz od (.dK (strK V.ref p)))) (upd H' T (.tup [kV (Sum.inr z), .ref x])) := same_upd s1 (s1.free hT)
      have hxd : x ≠ d := fun e => by subst e; rw [show H x = _ from hx] at hd; cases hd
      have hx2 : (upd H' T (.tup [kV (Sum.inr z), .ref x])) x = some (.tup [.str y.1, .int y.2]) := s2 _ _ (by rw [upd_ne hxd]; exact hx)
      refine x_g2 (SqT.of upd_same) ?_
      walk_at "go"
      refine x_name g1 ?_
      walk_at "go"
      refine ⟨_, _, rfl, SqT.of hx2, ?_⟩
      walk_at "go"
      refine x_nyes rfl ?_
      walk_at "go"
      refine x_ixt 0 (SqT.of hx2) rfl rfl ?_
      walk_at "go"
      refine x_name g2 ?_
      walk_at "go"
      refine x_ixt 0 (SqT.of hx2) rfl rfl ?_
      walk_at "go"
      refine x_ninD (l := m) (same_rd s2 (rd_held nd hn)) ?_
      rw [keyIn g3]
      refine ⟨false, rfl, x_F ?_⟩
      walk_at "go"
      refine x_ixt 1 (SqT.of hx2) rfl rfl ?_
      walk_at "go"
      refine ⟨_, _, rfl, .int _, ?_⟩
      walk_at "go"
      refine x_nT ?_
      walk_at "go"
      refine x_ixt 1 (SqT.of hx2) rfl rfl ?_
      walk_at "go"
      refine x_yes (by omega) ?_
      walk_at "go"
      refine x_nyes (by omega) ?_
      walk_at "go"
      exact ⟨_, _, rfl, s2⟩
    · rintro σ H' ⟨v1, v2, rfl, s1⟩
      refine ⟨s1 d _ upd_same, ?_⟩
      walk_at "go"
      exact q _ (same_back hd s1)
/-- a stand, judged among the stands at n -/
def spIsStand (K : PySem.W.Frag) : Sp := fun vs H Q _ => ∃ (a n : Addr) (h : Int) (x : Sd) (m : List (Str × Addr)), vs = [.ref a, .int h, .ref n] ∧ SdAt H a x ∧ (∀ o, H n ≠ some (.dK o)) ∧ Rd H n (.dK (strK V.ref m)) ∧ GoodSd h (m.map (·.1)) x ∧ (∀ z ∈ m.map (·.1), NameS z) ∧
  ∀ H', L2.Same H H' → Q (.bl true) H'
theorem ok_is_stand {f : Addr} {fd : FuncData} (F : Fun K "is_stand" "is_stand" s_is_stand f fd) (Z_tuple : mg "tuple" = none) (Z_str : mg "str" = none) (Z_len : mg "len" = none) (Z_isinstance : mg "isinstance" = none)
    (C_is_moves : Cal P w K mg base 2 "is_moves" ["thing", "names"] spIsMoves) (C_is_draws : Cal P w K mg base 2 "is_draws" ["thing", "names"] spIsDraws) (C_is_integer : Cal P w K mg base 1 "is_integer" ["thing"] (spIsInt K)) : FnOk P w K mg base CX0 3 f fd ["thing", "hands", "names"] (spIsStand K) := by
  refine F.ok sc_is_stand (fun vs H Q E h => ?_) (fun cdv A outer s H vs Q E hr h => ?_)
  · obtain ⟨_, _, _, _, _, rfl, _⟩ := h
    rfl
  · obtain ⟨a, n, h, x, m, rfl, hx, hnf, hn, hg, hnm, q⟩ := h
    refine ⟨_, (pss_cons (ps_if (PW.pt (pw_or (pt_not (pt_val (pe_callB call_isi (by rfl) Z_isinstance (by decide +kernel) (pa_cons (pv 0) (pa_cons (pe_bltn (v := .ty "tuple") (by rfl) Z_tuple (by decide +kernel) rfl) pa_nil))))) (pw_or (pt_cmpR op_eq (pe_callB call_lenA (by rfl) Z_len (by decide +kernel) (pa_cons (pv 0) pa_nil)) pe_int (nomark _)) (pw_or1 (pt_not (pt_val (pe_callB call_isi (by rfl) Z_isinstance (by decide +kernel) (pa_cons (pe_ix ix_tup (pv 0) pe_int (fun _ _ => rfl)) (pa_cons (pe_bltn (v := .ty "str") (by rfl) Z_str (by decide +kernel) rfl) pa_nil)))))))))
      (pss_one (ps_ret pe_bl))
      pss_nil)
      (pss_cons (ps_if (pt_cmpR op_eq (pe_ix ix_tup (pv 0) pe_int (fun _ _ => rfl)) pe_str (nomark _))
      (pss_one (ps_ret (pe_cmpR op_eq (pe_callB call_lenA (by rfl) Z_len (by decide +kernel) (pa_cons (pv 0) pa_nil)) pe_int (nomark _))))
      pss_nil)
      (pss_cons (ps_if (pt_cmpR op_eq (pe_ix ix_tup (pv 0) pe_int (fun _ _ => rfl)) pe_str (nomark _))
      (pss_one (ps_ret (pe_and (pe_cmpR op_eq (pe_callB call_lenA (by rfl) Z_len (by decide +kernel) (pa_cons (pv 0) pa_nil)) pe_int (nomark _)) (pe_one (pe_cal C_is_draws (hr.mono (by decide)) (by rfl) (pa_cons (pe_ix ix_tup (pv 0) pe_int (fun _ _ => rfl)) (pa_cons (pv 2) pa_nil)))))))
      pss_nil)
      (pss_cons (ps_if (PW.pt (pw_or (pt_cmpR op_ne (pe_ix ix_tup (pv 0) pe_int (fun _ _ => rfl)) pe_str (nomark _)) (pw_or1 (pt_cmpR op_ne (pe_callB call_lenA (by rfl) Z_len (by decide +kernel) (pa_cons (pv 0) pa_nil)) pe_int (nomark _)))))
      (pss_one (ps_ret pe_bl))
      pss_nil)
      (pss_cons (ps_if (PW.pt (pw_or (pt_not (pt_val (pe_cal C_is_integer (hr.mono (by decide)) (by rfl) (pa_cons (pe_ix ix_tup (pv 0) pe_int (fun _ _ => rfl)) pa_nil)))) (pw_or1 (pt_not (pt_chain op_le op_lt pe_int (pe_ix ix_tup (pv 0) pe_int (fun _ _ => rfl)) (pv 1))))))
      (pss_one (ps_ret pe_bl))
      pss_nil)
      (pss_one (ps_ret (pe_cal C_is_moves (hr.mono (by decide)) (by rfl) (pa_cons (pe_ix ix_tup (pv 0) pe_int (fun _ _ => rfl)) (pa_cons (pv 2) pa_nil)))))))))), ?_⟩
    walk_at "go"
    cases x with
    | fin =>
      have ha : H a = some (.tup [.str "end"]) := hx
      refine x_isiTup (.tup (SqT.of ha)) ?_
      walk_at "go"
      refine x_nT ?_
      walk_at "go"
      refine x_lenT (SqT.of ha) ?_
      walk_at "go"
      refine x_no (fun z => by cases z) ?_
      walk_at "go"
      refine x_ixt 0 (SqT.of ha) rfl rfl ?_
      walk_at "go"
      refine x_isiStr (.str _) ?_
      walk_at "go"
      refine x_nT ?_
      walk_at "go"
      refine x_ixt 0 (SqT.of ha) rfl rfl ?_
      walk_at "go"
      refine x_yes rfl ?_
      walk_at "go"
      refine x_lenT (SqT.of ha) ?_
      walk_at "go"
      exact q H (L2.Same.refl H)
    | chance l =>
      obtain ⟨d, ha, hD⟩ := hx
      obtain ⟨g1, g2, g3, g4⟩ := hg
      refine x_isiTup (.tup (SqT.of ha)) ?_
      walk_at "go"
      refine x_nT ?_
      walk_at "go"
      refine x_lenT (SqT.of ha) ?_
      walk_at "go"
      refine x_no (fun z => by cases z) ?_
      walk_at "go"
      refine x_ixt 0 (SqT.of ha) rfl rfl ?_
      walk_at "go"
      refine x_isiStr (.str _) ?_
      walk_at "go"
      refine x_nT ?_
      walk_at "go"
      refine x_ixt 0 (SqT.of ha) rfl rfl ?_
      walk_at "go"
      refine x_no (by decide +kernel) ?_
      walk_at "go"
      refine x_ixt 0 (SqT.of ha) rfl rfl ?_
      walk_at "go"
      refine x_yes rfl ?_
      walk_at "go"
      refine x_lenT (SqT.of ha) ?_
      walk_at "go"
      refine x_yes rfl ?_
      walk_at "go"
      refine x_ixt 1 (SqT.of ha) rfl rfl ?_
      walk_at "go"
      have hnd : n ≠ d := fun e => by
        obtain ⟨p, hd, _⟩ := hD.ex
        rw [e] at hnf
        exact hnf _ hd
      refine ⟨d, n, l, m, rfl, hD, hnd, hn, g2, g3, fun z y hz => ?_, q⟩
      have := g4 _ (lookup_mem hz)
      exact ⟨this.1, hnm _ this.2.1, this.2.1, this.2.2.1, this.2.2.2⟩
    | hand k l =>
      obtain ⟨d, ha, hd⟩ := hx
      obtain ⟨g1, g2, g3, g4, g5, g6⟩ := hg
      refine x_isiTup (.tup (SqT.of ha)) ?_
      walk_at "go"
      refine x_nT ?_
      walk_at "go"
      refine x_lenT (SqT.of ha) ?_
      walk_at "go"
      refine x_no (fun z => by cases z) ?_
      walk_at "go"
      refine x_ixt 0 (SqT.of ha) rfl rfl ?_
      walk_at "go"
      refine x_isiStr (.str _) ?_
      walk_at "go"
      refine x_nT ?_
      walk_at "go"
      refine x_ixt 0 (SqT.of ha) rfl rfl ?_
      walk_at "go"
      refine x_no (by decide +kernel) ?_
      walk_at "go"
      refine x_ixt 0 (SqT.of ha) rfl rfl ?_
      walk_at "go"
      refine x_no (by decide +kernel) ?_
      walk_at "go"
      refine x_ixt 0 (SqT.of ha) rfl rfl ?_
      walk_at "go"
      refine x_nyes rfl ?_
      walk_at "go"
      refine x_lenT (SqT.of ha) ?_
      walk_at "go"
      refine x_nyes rfl ?_
      walk_at "go"
      refine x_ixt 1 (SqT.of ha) rfl rfl ?_
      walk_at "go"
      refine ⟨_, _, rfl, .int _, ?_⟩
      walk_at "go"
      refine x_nT ?_
      walk_at "go"
      refine x_ixt 1 (SqT.of ha) rfl rfl ?_
      walk_at "go"
      refine x_yes (by omega) ?_
      walk_at "go"
      refine x_nyes (by omega) ?_
      walk_at "go"
      refine x_ixt 2 (SqT.of ha) rfl rfl ?_
      walk_at "go"
      have hnd : n ≠ d := fun e => by
        rw [e] at hnf
        exact hnf _ hd
      refine ⟨d, n, l, m, rfl, hd, hnd, hn, g4, g5, fun y hy => ?_, q⟩
      have := g6 _ hy
      exact ⟨this.1, hnm _ this.2, this.2⟩
theorem strK_inj {α : Type} {f : α → V} (hf : ∀ a b, f a = f b → a = b) : ∀ {l l' : List (Str × α)}, strK f l = strK f l' → l = l'
  | [], [], _ => rfl
  | [], _ :: _, h => by cases h
  | _ :: _, [], h => by cases h
  | p :: r, p' :: r', h => by
    have h1 : ((Sum.inr p.1 : Key), f p.2) :: strK f r = ((Sum.inr p'.1 : Key), f p'.2) :: strK f r' := h
    injection h1 with h2 h3
    injection h2 with h4 h5
    have e1 : p.1 = p'.1 := Sum.inr.inj h4
    have e2 := hf _ _ h5
    have e3 : p = p' := by
      obtain ⟨a, b⟩ := p
      obtain ⟨c, d⟩ := p'
      cases e1
      cases e2
      rfl
    rw [e3, strK_inj hf h3]
theorem sd_held {H : Hp} {d a : Addr} {u : HO} {m : List (Str × Addr)} {z : Str} {x : Sd} {h : Int} {ns : List Str} (hd : H d = some (.dK (strK V.ref m))) (hm : (z, a) ∈ m) (hx : SdAt H a x) (hg : GoodSd h ns x) : SdAt (upd H d u) a x := by
  cases x with
  | fin =>
    have ha : H a = some (.tup [.str "end"]) := hx
    have n1 : a ≠ d := ne_of ha hd (by intro z; cases z)
    show upd H d u a = _
    rw [upd_ne n1]
    exact ha
  | chance l =>
    obtain ⟨d2, ha, hD⟩ := hx
    obtain ⟨m2, h1, h2, h3⟩ := hD.ex
    have n1 : a ≠ d := ne_of ha hd (by intro z; cases z)
    have n2 : d2 ≠ d := fun e => by
      subst e
      rw [hd] at h1
      have e1 := strK_inj (f := V.ref) (fun a b e => by cases e; rfl) (HO.dK.inj (Option.some.inj h1))
      rw [e1] at hm
      obtain ⟨y, _, hy⟩ := h3 _ _ hm
      rw [show H a = _ from hy] at ha
      injection ha with ha
      injection ha with ha
      injection ha with _ ha
      injection ha with ha _
      cases ha
    refine ⟨d2, by rw [upd_ne n1]; exact ha, ⟨m2, by rw [upd_ne n2]; exact h1, h2, fun z a hza => ?_⟩⟩
    obtain ⟨y, hy, hp⟩ := h3 _ _ hza
    refine ⟨y, hy, ?_⟩
    have n3 : a ≠ d := ne_of (show H a = some _ from hp) hd (by intro z; cases z)
    show upd H d u a = _
    rw [upd_ne n3]
    exact hp
  | hand k l =>
    obtain ⟨d2, ha, h1⟩ := hx
    have n1 : a ≠ d := ne_of ha hd (by intro z; cases z)
    have n2 : d2 ≠ d := fun e => by
      subst e
      rw [hd] at h1
      have e1 := HO.dK.inj (Option.some.inj h1)
      obtain ⟨_, _, _, hl, _⟩ := hg
      cases l with
      | nil => exact absurd hl (by decide)
      | cons p r =>
        cases m with
        | nil => cases e1
        | cons p' r' =>
          have e2 : ((Sum.inr p'.1 : Key), V.ref p'.2) :: strK V.ref r' = ((Sum.inr p.1 : Key), V.str p.2) :: strK V.str r := e1
          injection e2 with e3 _
          injection e3 with _ e4
          cases e4
    exact ⟨d2, by rw [upd_ne n1]; exact ha, by rw [upd_ne n2]; exact h1⟩
/-- the stands of a work -/
structure GoodT (h : Int) (l : List (Str × Sd)) : Prop where
  nd : (l.map (·.1)).Nodup
  l1 : 1 ≤ l.length
  l2 : l.length ≤ 63
  nm : ∀ z ∈ l.map (·.1), NameS z
  sd : ∀ z x, l.lookup z = some x → GoodSd h (l.map (·.1)) x
def spAreStands : Sp := fun vs H Q _ => ∃ (d : Addr) (h : Int) (l : List (Str × Sd)), vs = [.ref d, .int h] ∧ DictOf SdAt H d l ∧ GoodT h l ∧ ∀ H', L2.Same H H' → Q (.bl true) H'
theorem ok_are_stands {f : Addr} {fd : FuncData} (F : Fun K "are_stands" "are_stands" s_are_stands f fd) (Z_dict : mg "dict" = none) (Z_len : mg "len" = none) (Z_isinstance : mg "isinstance" = none)
    (C_is_name : Cal P w K mg base 1 "is_name" ["thing"] (spIsName K)) (C_is_stand : Cal P w K mg base 3 "is_stand" ["thing", "hands", "names"] (spIsStand K)) : FnOk P w K mg base CX0 4 f fd ["thing", "hands"] spAreStands := by
  refine F.ok sc_are_stands (fun vs H Q E h => ?_) (fun cdv A outer s H vs Q E hr h => ?_)
  · obtain ⟨_, _, _, rfl, _⟩ := h
    rfl
  · obtain ⟨d, h, l, rfl, hD, g, q⟩ := h
    obtain ⟨m, hd, hk, hp⟩ := id hD.ex
    refine ⟨_, (pss_cons (ps_if (PW.pt (pw_or (pt_not (pt_val (pe_callB call_isi (by rfl) Z_isinstance (by decide +kernel) (pa_cons (pv 0) (pa_cons (pe_bltn (v := .ty "dict") (by rfl) Z_dict (by decide +kernel) rfl) pa_nil))))) (pw_or1 (pt_not (pt_chain op_le op_le pe_int (pe_callB call_lenDA (by rfl) Z_len (by decide +kernel) (pa_cons (pv 0) pa_nil)) pe_int)))))
      (pss_one (ps_ret pe_bl))
      pss_nil)
      (pss_cons (ps_lock (ps_for PassesOwn.never rfl (pi_keys (pv 0)) (pg_name (i := 2) sc_are_stands.nd rfl (Or.inl rfl))
      (pss_one (ps_if (pt_not (pt_val (pe_cal C_is_name (hr.mono (by decide)) (by rfl) (pa_cons (pv 2) pa_nil))))
      (pss_one (ps_ret pe_bl))
      pss_nil))))
      (pss_cons (ps_lock (ps_for PassesOwn.never rfl (pi_values (pv 0)) (pg_name (i := 3) sc_are_stands.nd rfl (Or.inl rfl))
      (pss_one (ps_if (pt_not (pt_val (pe_cal C_is_stand (hr.mono (by decide)) (by rfl) (pa_cons (pv 3) (pa_cons (pv 1) (pa_cons (pv 0) pa_nil))))))
      (pss_one (ps_ret pe_bl))
      pss_nil))))
      (pss_one (ps_ret pe_bl))))), ?_⟩
    have hl : (strK V.ref m).length = l.length := by
      rw [List.length_map]
      have := congrArg List.length hk
      rwa [List.length_map, List.length_map] at this
    have g1 := g.l1
    have g2 := g.l2
    walk_at "go"
    refine x_isiDict (.dict (.inl hd)) ?_
    walk_at "go"
    refine x_nT ?_
    walk_at "go"
    refine x_lenD (.inl hd) ?_
    rw [hl]
    walk_at "go"
    refine x_yes (by omega) ?_
    walk_at "go"
    refine x_nyes (by omega) ?_
    walk_at "go"
    refine x_lock hd trivial fun od => ?_
    walk_at "go"
    refine lpK (kvs := strK V.ref m) (fun i σ H' => ∃ v1, σ = [some (.ref d), some (.int h), v1, none] ∧ L2.Same (upd H d (.frz od (.dK (strK V.ref m)))) H') upd_same ?_ ?_ ?_ ?_
    · exact ⟨none, rfl, L2.Same.refl _⟩
    · exact fun i σ H' _ ⟨_, _, s1⟩ => s1 d _ upd_same
    · rintro i k0 v0 σ H' hi ⟨v1, rfl, s1⟩
      obtain ⟨z, x, rfl, rfl, hlx⟩ := strK_at hi
      have hz : NameS z := g.nm _ (by rw [← hk]; exact List.mem_map.mpr ⟨_, List.mem_of_getElem? hlx, rfl⟩)
      walk_at "go"
      refine x_name hz ?_
      walk_at "go"
      exact ⟨_, rfl, s1⟩
    · rintro σ H1 ⟨v1, rfl, s1⟩
      refine ⟨s1 d _ upd_same, ?_⟩
      have s2 := same_back hd s1
      walk_at "go"
      have hd1 : upd H1 d (.dK (strK V.ref m)) d = some (.dK (strK V.ref m)) := upd_same
      generalize upd H1 d (.dK (strK V.ref m)) = H1 at s2 hd1 ⊢
      refine x_lock hd1 trivial fun oe => ?_
      walk_at "go"
      refine lpV (kvs := strK V.ref m) (fun i σ H' => ∃ v1 v2, σ = [some (.ref d), some (.int h), v1, v2] ∧ L2.Same (upd H1 d (.frz oe (.dK (strK V.ref m)))) H') upd_same ?_ ?_ ?_ ?_
      · exact ⟨_, _, rfl, L2.Same.refl _⟩
      · exact fun i σ H' _ ⟨_, _, _, s1⟩ => s1 d _ upd_same
      · rintro i k0 v0 σ H' hi ⟨v1, v2, rfl, s3⟩
        obtain ⟨z, x, rfl, rfl, hlx⟩ := strK_at hi
        obtain ⟨y, hy, hx⟩ := hp _ _ (List.mem_of_getElem? hlx)
        have hm1 := List.mem_of_getElem? hlx
        have hg := g.sd _ _ hy
        have hx1 : SdAt H1 x y := hx.same s2
        have hx2 : SdAt H' x y := (sd_held hd1 hm1 hx1 hg).same s3
        walk_at "go"
        refine ⟨x, d, h, y, m, rfl, hx2, fun o e => ?_, .inr ⟨oe, s3 _ _ upd_same⟩, by rw [hk]; exact hg, by rw [hk]; exact g.nm, fun H3 s4 => ?_⟩
        · rw [s3 _ _ upd_same] at e
          cases e
        walk_at "go"
        exact ⟨_, _, rfl, s3.trans s4⟩
      · rintro σ H2 ⟨v1, v2, rfl, s3⟩
        refine ⟨s3 d _ upd_same, ?_⟩
        walk_at "go"
        exact q _ (s2.trans (same_back hd1 s3))
end
/-! ### copied, leads -/
/-- {z: d[z] for z in sorted(d)} -/
theorem dc_sorted {K : PySem.W.Frag} {α : Type} [Inhabited α] {f : α → V} {σ : L2.St} {H : Hp} {Qd : Addr → Hp → Prop} {d : Addr} {l : List (Str × α)} {j n : Nat} (hd : Rd H d (.dK (strK f l))) (hnd : (l.map (·.1)).Nodup) (hl : l.length ≤ 63) (hj : j ≠ n) (hn : n < σ.length)
    (h2 : σ[j]? = some (some (.ref d))) (k : ∀ H' D l', L2.Same H H' → H D = none → H' D = some (.dK (strK f l')) → l'.Perm l → sortedS (l'.map (·.1)) = true → Qd D H') :
    rSortDA [.ref d] H fun x H1 => RunL K (fun J H1 => ∀ D, H1 D = none → DcP J (gName n) tYes (tVar n) (tDGet (tVar j) (tVar n)) [n] σ D (Qd D) H1) x H1 := by
  have ek : (strK f l).map (·.1) = (l.map (·.1)).map Sum.inr := by rw [List.map_map, List.map_map]; rfl
  refine ⟨d, _, l.map (·.1), rfl, hd, ek, by rw [List.length_map]; omega, fun ys q hperm hsort hq => runL (SqL.of upd_same) fun D4 hD4 => ?_⟩
  have hq4 : q ≠ D4 := ne_of_none upd_same hD4
  have hD40 : H D4 = none := by rw [upd_ne hq4.symm] at hD4; exact hD4
  have ynd : ys.Nodup := (hperm.nodup_iff).mpr hnd
  have ylen : ys.length = l.length := by rw [hperm.length_eq, List.length_map]
  refine dcL (xs := ys.map V.str) (fun t H' => L2.Same H H' ∧ H' q = some (.lst (ys.map V.str)) ∧ H' D4 = some (.dK (strK f ((ys.take t).map fun z => (z, (l.lookup z).getD default))))) ?_ ?_ ?_ ?_
  · exact ⟨same_upd (same_new hq) hD40, by rw [upd_ne hq4]; exact upd_same, upd_same⟩
  · exact fun t H' _ h => SqL.of h.2.1
  · rintro t x H' hx ⟨s4, hq1, hD41⟩
    rw [List.getElem?_map] at hx
    cases hz : ys[t]? with
    | none => rw [hz] at hx; cases hx
    | some z =>
      rw [hz] at hx
      have ex : V.str z = x := Option.some.inj hx
      subst ex
      have hlt : t < ys.length := (List.getElem?_eq_some_iff.mp hz).1
      have hzm : z ∈ l.map (·.1) := hperm.mem_iff.mp (List.mem_of_getElem? hz)
      obtain ⟨xz, hxz⟩ := lookup_isSome hzm
      refine x_g1 ⟨?_, x_yes1 (x_T (x_var (v := .str z) ?_ (x_dget (x_var (v := .ref d) ?_ (x_var (v := .str z) ?_ (x_getL (l := l) (same_rd s4 hd) hxz ⟨_, Sum.inr z, rfl, hD41, sz_lt (by simp; omega), same_upd s4 hD40, by rw [upd_ne hq4]; exact hq1, ?_⟩))))))⟩
      · show ((σ.set n none).set n (some (.str z))).set n none = σ.set n none
        rw [List.set_set, List.set_set]
      · show ((σ.set n none).set n _)[n]? = _
        rw [List.getElem?_set_self (by rw [List.length_set]; exact hn)]
      · show ((σ.set n none).set n _)[j]? = _
        rw [List.getElem?_set_ne hj.symm, List.getElem?_set_ne hj.symm]
        exact h2
      · show ((σ.set n none).set n _)[n]? = _
        rw [List.getElem?_set_self (by rw [List.length_set]; exact hn)]
      · rw [upd_same, strK_put, putL_new, take_succ_get hz, List.map_append]
        · simp [hxz]
        · rw [List.map_map]
          intro hm
          obtain ⟨z', hz', e'⟩ := List.mem_map.mp hm
          have e2 : z' = z := e'
          subst e2
          obtain ⟨i, hi, he⟩ := List.getElem_of_mem hz'
          have hi2 : i < t := by simp at hi; omega
          have h5 : ys[i]? = some z' := by
            rw [List.getElem_take] at he
            rw [List.getElem?_eq_getElem (by omega), he]
          have := L2.nd_ix ynd h5 hz
          omega
  · rintro H4 ⟨s4, hq1, hD41⟩
    rw [List.length_map, List.take_length] at hD41
    refine k H4 D4 _ s4 hD40 hD41 (table_perm hnd hperm default) ?_
    rw [List.map_map]
    have : ((fun x : Str × α => x.1) ∘ fun z => (z, (l.lookup z).getD default)) = id := rfl
    rw [this, List.map_id]
    exact hsort
/-- the same stand, its steps in order -/
def SdSort : Sd → Sd → Prop
  | .fin, .fin => True
  | .chance l, .chance l' => l'.Perm l ∧ sortedS (l'.map (·.1)) = true
  | .hand k l, .hand k' l' => k' = k ∧ l'.Perm l ∧ sortedS (l'.map (·.1)) = true
  | _, _ => False
def spCopied : Sp := fun vs H Q _ => ∃ (a : Addr) (x : Sd) (h : Int) (ns : List Str), vs = [.ref a] ∧ SdAt H a x ∧ GoodSd h ns x ∧ ∀ H' p x', L2.Same H H' → H p = none → SdAt H' p x' → SdSort x x' → Q (.ref p) H'
def leadsL : Sd → List Str
  | .fin => []
  | .chance l => l.map (·.2.1)
  | .hand _ l => l.map (·.2)
def spLeads (C : Addr) : Sp := fun vs H Q _ => ∃ (a dx t : Addr) (fs : List (Str × V)) (tab : List (Str × Sd)) (z : Str) (x : Sd) (h : Int) (ns : List Str), vs = [.ref a, .str z] ∧ H a = some (.ins C dx fs) ∧ fs.lookup ("table" : Str) = some (.ref t) ∧ DictOf SdAt H t tab ∧
  tab.lookup z = some x ∧ GoodSd h ns x ∧ ∀ H' p, L2.Same H H' → H p = none → H' p = some (.lst (strsV (leadsL x))) → Q (.ref p) H'
/-- what stands in the dict for a key -/
theorem DictOf.at {α : Type} {R : Hp → Addr → α → Prop} {H : Hp} {d : Addr} {l : List (Str × α)} (h : DictOf R H d l) {z : Str} {x : α} (e : l.lookup z = some x) : ∃ (m : List (Str × Addr)) (a : Addr), H d = some (.dK (strK V.ref m)) ∧ m.lookup z = some a ∧ R H a x := by
  obtain ⟨m, h1, h2, h3⟩ := h.ex
  have hz : z ∈ m.map (·.1) := by
    rw [h2]
    exact List.mem_map.mpr ⟨_, lookup_mem e, rfl⟩
  obtain ⟨a, ha⟩ := lookup_isSome hz
  obtain ⟨y, hy, r⟩ := h3 _ _ (lookup_mem ha)
  rw [e] at hy
  cases hy
  exact ⟨m, a, h1, ha, r⟩
section
variable {P : Program} {w : World} {K : PySem.W.Frag} {mg : Str → Option Value} {base : Heap} {CW : Addr}
theorem ok_copied {f : Addr} {fd : FuncData} (F : Fun K "copied" "copied" s_copied f fd) (Z_len : mg "len" = none) (Z_sorted : mg "sorted" = none) : FnOk P w K mg base CX0 1 f fd ["stand"] spCopied := by
  refine F.ok sc_copied (fun vs H Q E h => ?_) (fun cdv A outer s H vs Q E hr h => ?_)
  · obtain ⟨_, _, _, _, rfl, _⟩ := h
    rfl
  · obtain ⟨a, x, h, ns, rfl, hx, hg, q⟩ := h
    have hu := hu_of hr
    refine ⟨_, (pss_cons (ps_if (pt_cmpR op_eq (pe_ix ix_tup (pv 0) pe_int (fun _ _ => rfl)) pe_str (nomark _))
      (pss_one (ps_ret (pe_tup (pa_cons pe_str pa_nil))))
      pss_nil)
      (pss_cons (ps_set (i := 1) sc_copied.nd rfl (Or.inr rfl) (pe_ix ix_tup (pv 0) (pe_op op_sub (pe_callB call_lenA (by rfl) Z_len (by decide +kernel) (pa_cons (pv 0) pa_nil)) pe_int) (fun _ _ => rfl)))
      (pss_cons (ps_setDc (i := 2) (own := [("step", 3)]) (g := gName 3) (tt := tYes) (by rfl) sc_copied.nd rfl rfl (sw_trueD rfl rfl rfl (by decide +kernel)) (pi_list (pe_callB (call_sortedDA rfl) (by rfl) Z_sorted (by decide +kernel) (pa_cons (pv 1) pa_nil))) (blkOk_by (own := [("step", 3)]) (N := N_copied) (sc := defScope s_copied) (by decide +kernel)) (fun _ _ _ _ _ => (pg_name (i := 3) sc_copied.nd rfl (Or.inl rfl))) (fun _ _ _ _ _ => pts_nil) (fun _ _ _ _ _ => by exact (pv 3)) (fun _ _ _ _ _ => by exact (pe_dget hu (pv 1) (pv 3) (fun _ _ => rfl))))
      (pss_cons (ps_if (pt_cmpR op_eq (pe_ix ix_tup (pv 0) pe_int (fun _ _ => rfl)) pe_str (nomark _))
      (pss_one (ps_ret (pe_tup (pa_cons pe_str (pa_cons (pe_ix ix_tup (pv 0) pe_int (fun _ _ => rfl)) (pa_cons (pv 2) pa_nil))))))
      pss_nil)
      (pss_one (ps_ret (pe_tup (pa_cons pe_str (pa_cons (pv 2) pa_nil))))))))), ?_⟩
    walk_at "go"
    cases x with
    | fin =>
      have ha : H a = some (.tup [.str "end"]) := hx
      refine x_ixt 0 (SqT.of ha) rfl rfl ?_
      walk_at "go"
      refine x_yes rfl ?_
      walk_at "go"
      refine ⟨by decide, fun p hp => ?_⟩
      exact q _ p .fin (same_new hp) hp (show upd H p _ p = _ from upd_same) trivial
    | chance l =>
      obtain ⟨d, ha, hD⟩ := hx
      obtain ⟨g1, g2, g3, g4⟩ := hg
      obtain ⟨m, hd, hk, hp⟩ := hD.ex
      refine x_ixt 0 (SqT.of ha) rfl rfl ?_
      walk_at "go"
      refine x_no (by decide +kernel) ?_
      walk_at "go"
      refine x_lenT (SqT.of ha) ?_
      walk_at "go"
      refine x_ixt 1 (SqT.of ha) rfl rfl ?_
      walk_at "go"
      have hkl : m.length = l.length := by
        have := congrArg List.length hk
        rwa [List.length_map, List.length_map] at this
      refine dc_sorted (f := V.ref) (l := m) (.inl hd) (by rw [hk]; exact g1) (by omega) (by decide) (by decide : 3 < 4) rfl fun H1 D m' s1 hD1 hD2 hpm hso => ?_
      walk_at "go"
      refine x_ixt 0 (SqT.of (s1 _ _ ha)) rfl rfl ?_
      walk_at "go"
      refine x_no (by decide +kernel) ?_
      walk_at "go"
      refine ⟨sz_le (by simp), fun p hp2 => ?_⟩
      have hpk : (m'.map (·.1)).Perm (l.map (·.1)) := by rw [← hk]; exact hpm.map _
      have nDp : D ≠ p := ne_of_none hD2 hp2
      refine q _ p (.chance ((m'.map (·.1)).map fun z => (z, (l.lookup z).getD default))) (same_upd s1 (s1.free hp2)) (s1.free hp2) ?_ ⟨table_perm g1 hpk default, ?_⟩
      · refine ⟨D, upd_same, ⟨m', by rw [upd_ne nDp]; exact hD2, ?_, fun z y hzy => ?_⟩⟩
        · rw [List.map_map]
          have : ((fun x : Str × (Str × Int) => x.1) ∘ fun z => (z, (l.lookup z).getD default)) = id := rfl
          rw [this, List.map_id]
        · obtain ⟨v, hv, hr2⟩ := hp _ _ (hpm.mem_iff.mp hzy)
          refine ⟨v, ?_, (show PairAt _ _ _ from ?_)⟩
          · rw [lookup_perm (table_perm g1 hpk default) g1]
            exact hv
          · show upd H1 p _ y = _
            have hy := s1 _ _ (show H y = some _ from hr2)
            rw [upd_ne (ne_of_none hy hp2)]
            exact hy
      · rw [List.map_map]
        have : ((fun x : Str × (Str × Int) => x.1) ∘ fun z => (z, (l.lookup z).getD default)) = id := rfl
        rw [this, List.map_id]
        exact hso
    | hand k l =>
      obtain ⟨d, ha, hd⟩ := hx
      obtain ⟨_, _, g1, g2, g3, g4⟩ := hg
      refine x_ixt 0 (SqT.of ha) rfl rfl ?_
      walk_at "go"
      refine x_no (by decide +kernel) ?_
      walk_at "go"
      refine x_lenT (SqT.of ha) ?_
      walk_at "go"
      refine x_ixt 2 (SqT.of ha) rfl rfl ?_
      walk_at "go"
      refine dc_sorted (f := V.str) (l := l) (.inl hd) g1 (by omega) (by decide) (by decide : 3 < 4) rfl fun H1 D l' s1 hD1 hD2 hpm hso => ?_
      walk_at "go"
      refine x_ixt 0 (SqT.of (s1 _ _ ha)) rfl rfl ?_
      walk_at "go"
      refine x_yes rfl ?_
      walk_at "go"
      refine x_ixt 1 (SqT.of (s1 _ _ ha)) rfl rfl ?_
      walk_at "go"
      refine ⟨sz_le (by simp), fun p hp2 => ?_⟩
      have nDp : D ≠ p := ne_of_none hD2 hp2
      exact q _ p (.hand k l') (same_upd s1 (s1.free hp2)) (s1.free hp2) ⟨D, upd_same, by rw [upd_ne nDp]; exact hD2⟩ ⟨rfl, hpm, hso⟩
theorem ok_leads {f : Addr} {fd : FuncData} (F : Fun K "leads" "leads" s_leads f fd) (K_Work : Cls K CW) (N1 : NoAttr K CW "table") : FnOk P w K mg base CX0 1 f fd ["work", "stand"] (spLeads CW) := by
  refine F.ok sc_leads (fun vs H Q E h => ?_) (fun cdv A outer s H vs Q E hr h => ?_)
  · obtain ⟨_, _, _, _, _, _, _, _, _, rfl, _⟩ := h
    rfl
  · obtain ⟨a, dx, t, fs, tab, z, x, h, ns, rfl, ha, hf, hT, hz, hg, q⟩ := h
    obtain ⟨m, b, ht, hb, hx⟩ := hT.at hz
    have hu := hu_of hr
    refine ⟨_, (pss_cons (ps_set (i := 2) sc_leads.nd rfl (Or.inr rfl) (pe_dget hu (pe_fld (pv 0) rfl) (pv 1) (fun _ _ => rfl)))
      (pss_cons (ps_if (pt_cmpR op_eq (pe_ix ix_tup (pv 2) pe_int (fun _ _ => rfl)) pe_str (nomark _))
      (pss_one (ps_ret (pe_lst pa_nil)))
      pss_nil)
      (pss_cons (ps_if (pt_cmpR op_eq (pe_ix ix_tup (pv 2) pe_int (fun _ _ => rfl)) pe_str (nomark _))
      (pss_one (ps_ret (pe_lock (pe_lc (own := [("step", 3)]) (g := gName 3) (tt := tYes) (by rfl) sc_leads.nd (pi_keys (pe_ix ix_tup (pv 2) pe_int (fun _ _ => rfl))) (blkOk_by (own := [("step", 3)]) (N := N_leads) (sc := defScope s_leads) (by decide +kernel)) (fun _ _ _ _ _ => (pg_name (i := 3) sc_leads.nd rfl (Or.inl rfl))) (fun _ _ _ _ _ => pts_nil) (fun _ _ _ _ _ => by exact (pe_dget hu (pe_ix (ix_tupK (K := K)) (pv 2) pe_int (fun _ _ => rfl)) (pv 3) (fun _ _ => rfl)))))))
      pss_nil)
      (pss_one (ps_ret (pe_lock (pe_lc (own := [("step", 3)]) (g := gName 3) (tt := tYes) (by rfl) sc_leads.nd (pi_keys (pe_ix ix_tup (pv 2) pe_int (fun _ _ => rfl))) (blkOk_by (own := [("step", 3)]) (N := N_leads) (sc := defScope s_leads) (by decide +kernel)) (fun _ _ _ _ _ => (pg_name (i := 3) sc_leads.nd rfl (Or.inl rfl))) (fun _ _ _ _ _ => pts_nil) (fun _ _ _ _ _ => by exact (pe_ix (ix_tupK (K := K)) (pe_dget hu (pe_ix (ix_tupK (K := K)) (pv 2) pe_int (fun _ _ => rfl)) (pv 3) (fun _ _ => rfl)) pe_int (fun _ _ => rfl)))))))))), ?_⟩
    walk_at "go"
    refine x_fld K_Work N1 ha hf ?_
    walk_at "go"
    refine x_getL (.inl ht) hb ?_
    walk_at "go"
    cases x with
    | fin =>
      have hb1 : H b = some (.tup [.str "end"]) := hx
      refine x_ixt 0 (SqT.of hb1) rfl rfl ?_
      walk_at "go"
      refine x_yes rfl ?_
      walk_at "go"
      refine ⟨by decide, fun p hp => ?_⟩
      exact q _ p (same_new hp) hp upd_same
    | chance l =>
      obtain ⟨d, hb1, hD⟩ := hx
      obtain ⟨g1, g2, g3, g4⟩ := hg
      obtain ⟨m2, hd, hk, hp⟩ := hD.ex
      have hkl : m2.length = l.length := by
        have := congrArg List.length hk
        rwa [List.length_map, List.length_map] at this
      have nd2 : (m2.map (·.1)).Nodup := by rw [hk]; exact g1
      refine x_ixt 0 (SqT.of hb1) rfl rfl ?_
      walk_at "go"
      refine x_no (by decide +kernel) ?_
      walk_at "go"
      refine x_ixt 0 (SqT.of hb1) rfl rfl ?_
      walk_at "go"
      refine x_no (by decide +kernel) ?_
      walk_at "go"
      have nbd : b ≠ d := ne_of hb1 hd (by intro z; cases z)
      refine x_lockE hd trivial fun od => ?_
      have hb2 : (upd H d (.frz od (.dK (strK V.ref m2)))) b = some (.tup [.str "chance", .ref d]) := by rw [upd_ne nbd]; exact hb1
      walk_at "go"
      refine x_ixt 1 (SqT.of hb2) rfl rfl ?_
      refine runK upd_same ?_
      intro D hD
      have hDd : D ≠ d := fun z => by rw [z, upd_same] at hD; cases hD
      have hD0 : H D = none := by rw [upd_ne hDd] at hD; exact hD
      refine lcK (kvs := strK V.ref m2) (fun i H' => L2.Same (upd H d (.frz od (.dK (strK V.ref m2)))) H' ∧ H' D = some (.lst (strsV ((l.take i).map (·.2.1))))) ?_ ?_ ?_ ?_
      · exact ⟨same_new hD, upd_same⟩
      · exact fun i H' _ h => h.1 d _ upd_same
      · rintro i k0 v0 H' hi ⟨s1, hD1⟩
        obtain ⟨z, y, rfl, rfl, hly⟩ := strK_at hi
        have hym := List.mem_of_getElem? hly
        obtain ⟨v, hv, hr2⟩ := hp _ _ hym
        have nyd : y ≠ d := ne_of (show H y = some _ from hr2) hd (by intro z; cases z)
        have hy1 : H' y = some (.tup [.str v.1, .int v.2]) := s1 _ _ (by rw [upd_ne nyd]; exact hr2)
        have hlt : i < m2.length := (List.getElem?_eq_some_iff.mp hly).1
        have hli : l[i]? = some (z, v) := by
          have e1 : (m2.map (·.1))[i]? = some z := by rw [List.getElem?_map, hly]; rfl
          rw [hk, List.getElem?_map] at e1
          cases e2 : l[i]? with
          | none => rw [e2] at e1; cases e1
          | some q2 =>
            rw [e2] at e1
            have e3 : q2.1 = z := Option.some.inj e1
            have e4 := lookup_of g1 (z := q2.1) (x := q2.2) (List.mem_of_getElem? e2)
            rw [e3, hv] at e4
            have e5 := Option.some.inj e4
            rw [← e3, e5]
        walk_at "go"
        refine ⟨rfl, ?_⟩
        walk_at "go"
        refine x_ixt 1 (SqT.of (s1 _ _ hb2)) rfl rfl ?_
        walk_at "go"
        refine x_getL (l := m2) (.inr ⟨od, s1 _ _ upd_same⟩) (lookup_of nd2 hym) ?_
        walk_at "go"
        refine x_ixt 0 (SqT.of hy1) rfl rfl ?_
        refine ⟨_, hD1, sz_lt (by simp; omega), same_upd s1 hD, ?_⟩
        rw [upd_same, take_succ_get hli]
        simp
      · rintro H4 ⟨s1, hD1⟩
        have eL : (strK V.ref m2).length = l.length := by rw [List.length_map]; exact hkl
        rw [eL, List.take_length] at hD1
        refine ⟨s1 d _ upd_same, ?_⟩
        exact q _ D (same_back hd s1) hD0 (by rw [upd_ne hDd]; exact hD1)
    | hand k l =>
      obtain ⟨d, hb1, hd⟩ := hx
      obtain ⟨_, _, g1, g2, g3, g4⟩ := hg
      refine x_ixt 0 (SqT.of hb1) rfl rfl ?_
      walk_at "go"
      refine x_no (by decide +kernel) ?_
      walk_at "go"
      refine x_ixt 0 (SqT.of hb1) rfl rfl ?_
      walk_at "go"
      refine x_yes rfl ?_
      walk_at "go"
      have nbd : b ≠ d := ne_of hb1 hd (by intro z; cases z)
      refine x_lockE hd trivial fun od => ?_
      have hb2 : (upd H d (.frz od (.dK (strK V.str l)))) b = some (.tup [.str "hand", .int k, .ref d]) := by rw [upd_ne nbd]; exact hb1
      walk_at "go"
      refine x_ixt 2 (SqT.of hb2) rfl rfl ?_
      refine runK upd_same ?_
      intro D hD
      have hDd : D ≠ d := fun z => by rw [z, upd_same] at hD; cases hD
      have hD0 : H D = none := by rw [upd_ne hDd] at hD; exact hD
      refine lcK (kvs := strK V.str l) (fun i H' => L2.Same (upd H d (.frz od (.dK (strK V.str l)))) H' ∧ H' D = some (.lst (strsV ((l.take i).map (·.2))))) ?_ ?_ ?_ ?_
      · exact ⟨same_new hD, upd_same⟩
      · exact fun i H' _ h => h.1 d _ upd_same
      · rintro i k0 v0 H' hi ⟨s1, hD1⟩
        obtain ⟨z, y, rfl, rfl, hly⟩ := strK_at hi
        have hym := List.mem_of_getElem? hly
        have hlt : i < l.length := (List.getElem?_eq_some_iff.mp hly).1
        walk_at "go"
        refine ⟨rfl, ?_⟩
        walk_at "go"
        refine x_ixt 2 (SqT.of (s1 _ _ hb2)) rfl rfl ?_
        walk_at "go"
        refine x_getL (l := l) (.inr ⟨od, s1 _ _ upd_same⟩) (lookup_of g1 hym) ?_
        refine ⟨_, hD1, sz_lt (by simp; omega), same_upd s1 hD, ?_⟩
        rw [upd_same, take_succ_get hly]
        simp
      · rintro H4 ⟨s1, hD1⟩
        have eL : (strK V.str l).length = l.length := List.length_map ..
        rw [eL, List.take_length] at hD1
        refine ⟨s1 d _ upd_same, ?_⟩
        exact q _ D (same_back hd s1) hD0 (by rw [upd_ne hDd]; exact hD1)
end
/-! ### is a work ringless -/
def rlStep (ld : Str → List Str) (p : List (Str × Bool) × List Str) (z : Str) : List (Str × Bool) × List Str :=
  if (ld z).all (fun t => (p.1.lookup t).isSome) = true then (putL p.1 z true, p.2) else (p.1, p.2 ++ [z])
def rlPass (ld : Str → List Str) (left : List Str) (st : List (Str × Bool)) : List (Str × Bool) × List Str := left.foldl (rlStep ld) (st, [])
def rlRun (ld : Str → List Str) : Nat → List Str → List (Str × Bool) → List Str
  | 0, left, _ => left
  | n + 1, left, st => if (rlPass ld left st).2.length < left.length then rlRun ld n (rlPass ld left st).2 (rlPass ld left st).1 else (rlPass ld left st).2
def leadOf (tab : List (Str × Sd)) (z : Str) : List Str := ((tab.lookup z).map leadsL).getD []
def ringB (tab : List (Str × Sd)) (ns : List Str) : Bool := decide ((rlRun (leadOf tab) (ns.length + 1) ns []).length = 0)
def spRingless (C : Addr) : Sp := fun vs H Q _ => ∃ (a dx t n : Addr) (fs : List (Str × V)) (tab : List (Str × Sd)) (ns : List Str) (h : Int) (nm : List Str), vs = [.ref a] ∧ H a = some (.ins C dx fs) ∧ fs.lookup ("table" : Str) = some (.ref t) ∧ fs.lookup ("names" : Str) = some (.ref n) ∧
  DictOf SdAt H t tab ∧ H n = some (.tup (strsV ns)) ∧ ns.length ≤ 63 ∧ (∀ z ∈ ns, ∃ x, tab.lookup z = some x ∧ GoodSd h nm x) ∧ ∀ H', L2.Same H H' → Q (.bl (ringB tab ns)) H'
theorem leads_len {h : Int} {nm : List Str} {x : Sd} (g : GoodSd h nm x) : (leadsL x).length ≤ 4 := by
  cases x with
  | fin => exact Nat.zero_le _
  | chance l =>
    show (l.map _).length ≤ 4
    rw [List.length_map]
    exact g.2.2.1
  | hand k l =>
    show (l.map _).length ≤ 4
    rw [List.length_map]
    exact g.2.2.2.2.1
section
variable {P : Program} {w : World} {K : PySem.W.Frag} {mg : Str → Option Value} {base : Heap} {CW : Addr}
theorem ok_is_ringless {f : Addr} {fd : FuncData} (F : Fun K "is_ringless" "is_ringless" s_is_ringless f fd) (K_Work : Cls K CW) (N1 : NoAttr K CW "names") (Z_list : mg "list" = none) (Z_all : mg "all" = none) (Z_len : mg "len" = none)
    (C_leads : Cal P w K mg base 1 "leads" ["work", "stand"] (spLeads CW)) : FnOk P w K mg base CX0 2 f fd ["work"] (spRingless CW) := by
  refine F.ok sc_is_ringless (fun vs H Q E h => ?_) (fun cdv A outer s H vs Q E hr h => ?_)
  · obtain ⟨_, _, _, _, _, _, _, _, _, rfl, _⟩ := h
    rfl
  · obtain ⟨a, dx, t, n, fs, tab, ns, h, nm, rfl, ha, hft, hfn, hT, hn, hlen, hg, q⟩ := h
    have hu := hu_of hr
    refine ⟨_, (pss_cons (ps_set (i := 1) sc_is_ringless.nd rfl (Or.inl rfl) (pe_callTy call_listA (by rfl) Z_list (by decide +kernel) (pa_cons (pe_fld (pv 0) rfl) pa_nil)))
      (pss_cons (ps_set (i := 2) sc_is_ringless.nd rfl (Or.inr rfl) pe_dnewK)
      (pss_cons (ps_set (i := 3) sc_is_ringless.nd rfl (Or.inl rfl) pe_bl)
      (pss_cons (ps_while PassesOwn.never (pt_val (pv 3))
      (pss_cons (ps_set (i := 4) sc_is_ringless.nd rfl (Or.inl rfl) (pe_lst pa_nil))
      (pss_cons (ps_for PassesOwn.never rfl (pi_list (pv 1)) (pg_name (i := 5) sc_is_ringless.nd rfl (Or.inl rfl))
      (pss_one (ps_if (pt_val (pe_callB (cr_all rfl) (by rfl) Z_all (by decide +kernel) (pa_cons (pe_lc (own := [("to", 6)]) (g := gName 6) (tt := tYes) (by rfl) sc_is_ringless.nd (pi_list (pe_cal C_leads (hr.mono (by decide)) (by rfl) (pa_cons (pv 0) (pa_cons (pv 5) pa_nil)))) (blkOk_by (own := [("to", 6)]) (N := N_is_ringless) (sc := defScope s_is_ringless) (by decide +kernel)) (fun _ _ _ _ _ => (pg_name (i := 6) sc_is_ringless.nd rfl (Or.inl rfl))) (fun _ _ _ _ _ => pts_nil) (fun _ _ _ _ _ => by exact (pe_cmp (pc_din hu (pv 6) (pv 2))))) pa_nil)))
      (pss_one (ps_dput hu (pv 2) (pv 5) pe_bl rfl))
      (pss_one (ps_expr (pe_bm PySem.F.plainAttrs_list PySem.F.slot_list_append PySem.F.type_list_append mt_append (pv 4) (pa_cons (pv 5) pa_nil)))))))
      (pss_cons (ps_set (i := 3) sc_is_ringless.nd rfl (Or.inl rfl) (pe_cmpR op_lt (pe_callB call_lenA (by rfl) Z_len (by decide +kernel) (pa_cons (pv 4) pa_nil)) (pe_callB call_lenA (by rfl) Z_len (by decide +kernel) (pa_cons (pv 1) pa_nil)) (nomark _)))
      (pss_one (ps_set (i := 1) sc_is_ringless.nd rfl (Or.inl rfl) (pv 4)))))))
      (pss_one (ps_ret (pe_cmpR op_eq (pe_callB call_lenA (by rfl) Z_len (by decide +kernel) (pa_cons (pv 1) pa_nil)) pe_int (nomark _)))))))), ?_⟩
    walk_at "go"
    refine x_fld K_Work N1 ha hfn ?_
    walk_at "go"
    refine x_listT (SqT.of hn) fun l0 hl0 => ?_
    walk_at "go"
    intro st hst
    have nl0 : l0 ≠ st := ne_of_none upd_same hst
    have hst0 : H st = none := by rw [upd_ne nl0.symm] at hst; exact hst
    walk_at "go"
    refine lpWv (fun m σ H' => ∃ lA g rest name lf stl, σ = [some (.ref a), some (.ref lA), some (.ref st), some (.bl g), rest, name, none] ∧ L2.Same H H' ∧ H lA = none ∧ lA ≠ st ∧ H' lA = some (.lst (strsV lf)) ∧ H' st = some (.dK (strK V.bl stl)) ∧
      (∀ z ∈ lf, z ∈ ns) ∧ lf.length ≤ 63 ∧ stl.length + m * 63 ≤ 4032 ∧ ((g = true ∧ lf.length < m ∧ rlRun (leadOf tab) m lf stl = rlRun (leadOf tab) (ns.length + 1) ns []) ∨ (g = false ∧ lf = rlRun (leadOf tab) (ns.length + 1) ns []))) (m := ns.length + 1) ?_ ?_
    · refine ⟨l0, true, _, _, ns, [], rfl, same_upd (same_new hl0) hst0, hl0, nl0, by rw [upd_ne nl0]; exact upd_same, upd_same, fun z hz => hz, hlen, by simp; omega, .inl ⟨rfl, Nat.lt_succ_self _, rfl⟩⟩
    · rintro m σ H1 ⟨lA, g, rest, name, lf, stl, rfl, s1, hlA, nlA, h1l, h1s, hsub, hlf, hm, hcase⟩
      refine ⟨g, rfl, ?_⟩
      rcases hcase with ⟨rfl, hlt, hR⟩ | ⟨rfl, hR⟩
      · refine x_T ?_
        obtain ⟨m', rfl⟩ : ∃ k, m = k + 1 := ⟨m - 1, by omega⟩
        walk_at "go"
        refine ⟨sz_le (by simp), fun rA hrA => ?_⟩
        have nrl : lA ≠ rA := ne_of_none h1l hrA
        have nrs : st ≠ rA := ne_of_none h1s hrA
        have hrA0 := s1.free hrA
        walk_at "go"
        refine lpL (xs := strsV lf) (fun i σ H' => ∃ name, σ = [some (.ref a), some (.ref lA), some (.ref st), some (.bl true), some (.ref rA), name, none] ∧ L2.Same H H' ∧ H' lA = some (.lst (strsV lf)) ∧
          H' st = some (.dK (strK V.bl (rlPass (leadOf tab) (lf.take i) stl).1)) ∧ H' rA = some (.lst (strsV (rlPass (leadOf tab) (lf.take i) stl).2)) ∧ (rlPass (leadOf tab) (lf.take i) stl).1.length ≤ stl.length + i ∧ (rlPass (leadOf tab) (lf.take i) stl).2.length ≤ i ∧
          ∀ z ∈ (rlPass (leadOf tab) (lf.take i) stl).2, z ∈ ns) (SqL.of (by rw [upd_ne nrl]; exact h1l)) ?_ ?_ ?_ ?_
        · exact ⟨_, rfl, same_upd s1 hrA0, by rw [upd_ne nrl]; exact h1l, by rw [upd_ne nrs]; exact h1s, upd_same, by simp [rlPass], by simp [rlPass], by simp [rlPass]⟩
        · exact fun i σ H' _ ⟨_, _, _, h, _⟩ => SqL.of h
        · rintro i y σ H2 hy ⟨name, rfl, s2, h2l, h2s, h2r, b1, b2, b3⟩
          rw [List.getElem?_map] at hy
          cases hz : lf[i]? with
          | none => rw [hz] at hy; cases hy
          | some z =>
            rw [hz] at hy
            have ex : V.str z = y := Option.some.inj hy
            subst ex
            have hi : i < lf.length := (List.getElem?_eq_some_iff.mp hz).1
            have hzn : z ∈ ns := hsub z (List.mem_of_getElem? hz)
            obtain ⟨x, hx, hgx⟩ := hg z hzn
            have elead : leadOf tab z = leadsL x := by
              unfold leadOf
              rw [hx]
              rfl
            have estep : rlPass (leadOf tab) (lf.take (i + 1)) stl = rlStep (leadOf tab) (rlPass (leadOf tab) (lf.take i) stl) z := by
              unfold rlPass
              rw [take_succ_get hz, List.foldl_append]
              rfl
            rw [estep]
            generalize rlPass (leadOf tab) (lf.take i) stl = pp at h2s h2r b1 b2 b3 ⊢
            obtain ⟨p1, p2⟩ := pp
            walk_at "go"
            refine ⟨a, dx, t, fs, tab, z, x, h, nm, rfl, s2 _ _ ha, hft, hT.same s2, hx, hgx, fun H3 q3 s3 hq3 hq33 => runL (SqL.of hq33) fun D hD => ?_⟩
            have ll := leads_len hgx
            have nqD : q3 ≠ D := ne_of_none hq33 hD
            have hD2 := s3.free hD
            have h3s := s3 _ _ h2s
            have h3r := s3 _ _ h2r
            have h3l := s3 _ _ h2l
            refine lcL (xs := strsV (leadsL x)) (fun j H' => L2.Same H3 H' ∧ H' D = some (.lst ((((leadsL x).take j).map fun y => (p1.lookup y).isSome).map V.bl))) ?_ ?_ ?_ ?_
            · exact ⟨same_new hD, upd_same⟩
            · exact fun j H' _ h => SqL.of (h.1 _ _ hq33)
            · rintro j y H4 hy ⟨s4, hD4⟩
              rw [List.getElem?_map] at hy
              cases hw : (leadsL x)[j]? with
              | none => rw [hw] at hy; cases hy
              | some u =>
                rw [hw] at hy
                have ex : V.str u = y := Option.some.inj hy
                subst ex
                have hj : j < (leadsL x).length := (List.getElem?_eq_some_iff.mp hw).1
                walk_at "go"
                refine ⟨rfl, ?_⟩
                walk_at "go"
                refine x_inD (l := p1) (.inl (s4 _ _ h3s)) ?_
                refine ⟨_, hD4, sz_lt (by simp; omega), same_upd s4 hD, ?_⟩
                rw [upd_same, take_succ_get hw]
                simp
            · rintro H4 ⟨s4, hD4⟩
              rw [List.length_map, List.take_length] at hD4
              have s34 : L2.Same H2 H4 := s3.trans s4
              walk_at "go"
              refine ⟨D, _, rfl, SqL.of hD4, ?_⟩
              have eall : (List.map (fun y => (p1.lookup y).isSome) (leadsL x)).all id = (leadOf tab z).all fun t => (p1.lookup t).isSome := by
                rw [elead, List.all_map]
                rfl
              rw [eall]
              walk_at "go"
              refine x_ite (fun hall => ?_) (fun hall => ?_)
              · have e2 : rlStep (leadOf tab) (p1, p2) z = (putL p1 z true, p2) := if_pos hall
                rw [e2]
                walk_at "go"
                refine x_putL (s34 _ _ h2s) (by have : p1.length ≤ stl.length + i := b1; omega) rfl ?_
                walk_at "go"
                refine ⟨_, rfl, same_upd (s2.trans s34) hst0, by rw [upd_ne nlA]; exact s34 _ _ h2l, upd_same, by rw [upd_ne nrs.symm]; exact s34 _ _ h2r, ?_, Nat.le_succ_of_le b2, b3⟩
                have := putL_len p1 z true
                have b1' : p1.length ≤ stl.length + i := b1
                show (putL p1 z true).length ≤ stl.length + (i + 1)
                omega
              · have e2 : rlStep (leadOf tab) (p1, p2) z = (p1, p2 ++ [z]) := if_neg (by rw [hall]; exact Bool.false_ne_true)
                rw [e2]
                walk_at "go"
                refine x_tyL (SqL.of (s34 _ _ h2r)) ?_
                walk_at "go"
                refine x_app (s34 _ _ h2r) (sz_lt (by have : p2.length ≤ i := b2; simp; omega)) ?_
                walk_at "go"
                refine ⟨_, rfl, same_upd (s2.trans s34) hrA0, by rw [upd_ne nrl]; exact s34 _ _ h2l, by rw [upd_ne nrs]; exact s34 _ _ h2s, by rw [upd_same]; simp, Nat.le_succ_of_le b1, ?_, ?_⟩
                · have b2' : p2.length ≤ i := b2
                  show (p2 ++ [z]).length ≤ i + 1
                  simp
                  omega
                · intro u hu2
                  rcases List.mem_append.mp hu2 with hu2 | hu2
                  · exact b3 u hu2
                  · rw [List.mem_singleton.mp hu2]
                    exact hzn
        · rintro σ H2 ⟨name, rfl, s2, h2l, h2s, h2r, b1, b2, b3⟩
          rw [List.length_map, List.take_length] at h2s h2r b1 b2 b3
          walk_at "go"
          have hR2 : (if (rlPass (leadOf tab) lf stl).2.length < lf.length then rlRun (leadOf tab) m' (rlPass (leadOf tab) lf stl).2 (rlPass (leadOf tab) lf stl).1 else (rlPass (leadOf tab) lf stl).2) = rlRun (leadOf tab) (ns.length + 1) ns [] := hR
          generalize rlPass (leadOf tab) lf stl = pp at h2s h2r b1 b2 b3 hR2
          obtain ⟨p1, p2⟩ := pp
          have ed : decide (((strsV p2).length : Int) < ((strsV lf).length : Int)) = decide (p2.length < lf.length) := decide_eq_decide.mpr (by rw [List.length_map, List.length_map]; omega)
          refine ⟨m', Nat.lt_succ_self _, rA, _, _, _, p2, p1, rfl, s2, hrA0, nrs.symm, h2r, h2s, b3, by have b2' : p2.length ≤ lf.length := b2; omega, by have b1' : p1.length ≤ stl.length + lf.length := b1; omega, ?_⟩
          rw [ed]
          by_cases hlt2 : p2.length < lf.length
          · rw [if_pos hlt2] at hR2
            exact .inl ⟨decide_eq_true hlt2, by omega, hR2⟩
          · rw [if_neg hlt2] at hR2
            exact .inr ⟨decide_eq_false hlt2, hR2⟩
      · refine x_F ?_
        walk_at "go"
        have e : decide (((strsV lf).length : Int) = 0) = ringB tab ns := by
          unfold ringB
          rw [← hR]
          exact decide_eq_decide.mpr (by rw [List.length_map]; omega)
        rw [e]
        exact q _ s1
end
/-! ### a work as an object -/
def wkF (h : Int) (st : Str) (t n e : Addr) (r : Bool) : List (Str × V) := putF "ringless" (.bl r) (putF "ends" (.ref e) (putF "names" (.ref n) (putF "table" (.ref t) (putF "start" (.str st) (putF "hands" (.int h) [])))))
def isFin : Sd → Bool
  | .fin => true
  | _ => false
def finAt (tab : List (Str × Sd)) (z : Str) : Bool := ((tab.lookup z).map isFin).getD false
/-- the same stands, all in order -/
structure TabSort (l l' : List (Str × Sd)) : Prop where
  pm : (l'.map (·.1)).Perm (l.map (·.1))
  so : sortedS (l'.map (·.1)) = true
  sd : ∀ z x', l'.lookup z = some x' → ∃ x, l.lookup z = some x ∧ SdSort x x'
/-- a work stands at p, l its table -/
structure WorkAt (C : Addr) (H : Hp) (p : Addr) (h : Int) (st : Str) (l : List (Str × Sd)) : Prop where
  ex : ∃ dx t n e, H p = some (.ins C dx (wkF h st t n e (ringB l (l.map (·.1))))) ∧ DictOf SdAt H t l ∧ H n = some (.tup (strsV (l.map (·.1)))) ∧ H e = some (.tup (strsV ((l.map (·.1)).filter (finAt l))))
theorem WorkAt.same {C : Addr} {H H' : Hp} {p : Addr} {h : Int} {st : Str} {l : List (Str × Sd)} (w : WorkAt C H p h st l) (s : L2.Same H H') : WorkAt C H' p h st l := by
  obtain ⟨dx, t, n, e, h1, h2, h3, h4⟩ := w.ex
  exact ⟨dx, t, n, e, s _ _ h1, h2.same s, s _ _ h3, s _ _ h4⟩
theorem GoodSd.sort {h : Int} {ns : List Str} {x x' : Sd} (g : GoodSd h ns x) (s : SdSort x x') : GoodSd h ns x' := by
  cases x with
  | fin => cases x' with
    | fin => trivial
    | chance _ => cases s
    | hand _ _ => cases s
  | chance l => cases x' with
    | fin => cases s
    | hand _ _ => cases s
    | chance l' =>
      obtain ⟨g1, g2, g3, g4⟩ := g
      obtain ⟨p, _⟩ := s
      have e := p.length_eq
      exact ⟨(List.Perm.nodup_iff (p.map _)).mpr g1, by omega, by omega, fun q hq => g4 q (p.mem_iff.mp hq)⟩
  | hand k l => cases x' with
    | fin => cases s
    | chance _ => cases s
    | hand k' l' =>
      obtain ⟨g0, g1, g2, g3, g4, g5⟩ := g
      obtain ⟨rfl, p, _⟩ := s
      have e := p.length_eq
      exact ⟨g0, g1, (List.Perm.nodup_iff (p.map _)).mpr g2, by omega, by omega, fun q hq => g5 q (p.mem_iff.mp hq)⟩
theorem GoodSd.perm {h : Int} {ns ns' : List Str} {x : Sd} (g : GoodSd h ns x) (p : ∀ z ∈ ns, z ∈ ns') : GoodSd h ns' x := by
  cases x with
  | fin => trivial
  | chance l => exact ⟨g.1, g.2.1, g.2.2.1, fun q hq => ⟨(g.2.2.2 q hq).1, p _ (g.2.2.2 q hq).2.1, (g.2.2.2 q hq).2.2⟩⟩
  | hand k l => exact ⟨g.1, g.2.1, g.2.2.1, g.2.2.2.1, g.2.2.2.2.1, fun q hq => ⟨(g.2.2.2.2.2 q hq).1, p _ (g.2.2.2.2.2 q hq).2⟩⟩
theorem TabSort.good {h : Int} {l l' : List (Str × Sd)} (g : GoodT h l) (s : TabSort l l') : GoodT h l' where
  nd := (List.Perm.nodup_iff s.pm).mpr g.nd
  l1 := by
    have := s.pm.length_eq
    rw [List.length_map, List.length_map] at this
    have := g.l1
    omega
  l2 := by
    have := s.pm.length_eq
    rw [List.length_map, List.length_map] at this
    have := g.l2
    omega
  nm := fun z hz => g.nm z (s.pm.mem_iff.mp hz)
  sd := fun z x' hz => by
    obtain ⟨x, hx, hs⟩ := s.sd z x' hz
    exact ((g.sd z x hx).sort hs).perm fun z hz => s.pm.mem_iff.mpr hz
theorem pair_not_sd {H : Hp} {b : Addr} {v : Str × Int} {y : Sd} (h1 : PairAt H b v) (h2 : SdAt H b y) : False := by
  have e1 : H b = some (.tup [.str v.1, .int v.2]) := h1
  cases y with
  | fin =>
    rw [show H b = some (.tup [.str "end"]) from h2] at e1
    simp at e1
  | chance l =>
    obtain ⟨d, h3, _⟩ := h2
    rw [h3] at e1
    simp at e1
  | hand k l =>
    obtain ⟨d, h3, _⟩ := h2
    rw [h3] at e1
    simp at e1
theorem sd_wo {H : Hp} {D a : Addr} {x : Sd} {h : Int} {ns : List Str} (h1 : ∀ xs, H D ≠ some (.tup xs)) (h2 : ∀ l : List (Str × Str), l ≠ [] → H D ≠ some (.dK (strK V.str l))) (h3 : ∀ l : List (Str × (Str × Int)), l ≠ [] → ¬ DictOf PairAt H D l)
    (hx : SdAt H a x) (hg : GoodSd h ns x) : SdAt (wo H D) a x := by
  cases x with
  | fin =>
    have ha : H a = some (.tup [.str "end"]) := hx
    have n1 : a ≠ D := fun e => by rw [e] at ha; exact h1 _ ha
    show wo H D a = _
    rw [wo_ne n1]
    exact ha
  | chance l =>
    obtain ⟨d2, ha, hD⟩ := hx
    have hl : l ≠ [] := fun e => by
      rw [e] at hg
      exact absurd hg.2.1 (by decide)
    have n1 : a ≠ D := fun e => by rw [e] at ha; exact h1 _ ha
    have n2 : d2 ≠ D := fun e => by rw [e] at hD; exact h3 _ hl hD
    obtain ⟨m2, g1, g2, g3⟩ := hD.ex
    refine ⟨d2, by rw [wo_ne n1]; exact ha, ⟨m2, by rw [wo_ne n2]; exact g1, g2, fun z b hzb => ?_⟩⟩
    obtain ⟨y, hy, hp⟩ := g3 _ _ hzb
    have hp1 : H b = some (.tup [.str y.1, .int y.2]) := hp
    refine ⟨y, hy, ?_⟩
    have n3 : b ≠ D := fun e => by rw [e] at hp1; exact h1 _ hp1
    show wo H D b = _
    rw [wo_ne n3]
    exact hp1
  | hand k l =>
    obtain ⟨d2, ha, hd⟩ := hx
    have hl : l ≠ [] := fun e => by
      rw [e] at hg
      exact absurd hg.2.2.2.1 (by decide)
    have n1 : a ≠ D := fun e => by rw [e] at ha; exact h1 _ ha
    have n2 : d2 ≠ D := fun e => by rw [e] at hd; exact h2 _ hl hd
    exact ⟨d2, by rw [wo_ne n1]; exact ha, by rw [wo_ne n2]; exact hd⟩
/-- D is a table of stands or is to become one -/
theorem sd_woT {H : Hp} {D a : Addr} {x : Sd} {h : Int} {ns : List Str} {m : List (Str × Addr)} (hd : H D = some (.dK (strK V.ref m))) (hm : ∀ z b, (z, b) ∈ m → ∃ y, SdAt H b y) (hx : SdAt H a x) (hg : GoodSd h ns x) : SdAt (wo H D) a x := by
  refine sd_wo (fun xs e => ?_) (fun l hl e => ?_) (fun l hl hD => ?_) hx hg
  · rw [hd] at e
    cases e
  · rw [hd] at e
    have e1 := HO.dK.inj (Option.some.inj e)
    cases l with
    | nil => exact hl rfl
    | cons p r =>
      cases m with
      | nil => cases e1
      | cons p' r' =>
        have e2 : ((Sum.inr p'.1 : Key), V.ref p'.2) :: strK V.ref r' = ((Sum.inr p.1 : Key), V.str p.2) :: strK V.str r := e1
        injection e2 with e3 _
        injection e3 with _ e4
        cases e4
  · obtain ⟨m2, g1, g2, g3⟩ := hD.ex
    rw [hd] at g1
    have e1 := strK_inj (f := V.ref) (fun a b e => by cases e; rfl) (HO.dK.inj (Option.some.inj g1))
    subst e1
    cases m with
    | nil =>
      cases l with
      | nil => exact hl rfl
      | cons p r => cases g2
    | cons p r =>
      obtain ⟨v, _, hv⟩ := g3 p.1 p.2 List.mem_cons_self
      obtain ⟨y, hy⟩ := hm p.1 p.2 List.mem_cons_self
      exact pair_not_sd hv hy
theorem sd_woI {H : Hp} {D a C dx : Addr} {fs : List (Str × V)} {x : Sd} {h : Int} {ns : List Str} (hd : H D = some (.ins C dx fs)) (hx : SdAt H a x) (hg : GoodSd h ns x) : SdAt (wo H D) a x := by
  refine sd_wo (fun xs e => ?_) (fun l hl e => ?_) (fun l hl hD => ?_) hx hg
  · rw [hd] at e
    cases e
  · rw [hd] at e
    cases e
  · obtain ⟨m2, g1, _⟩ := hD.ex
    rw [hd] at g1
    cases g1
/-- a table without an object's place -/
theorem tab_woI {H : Hp} {D t C dx : Addr} {fs : List (Str × V)} {l : List (Str × Sd)} {h : Int} (hd : H D = some (.ins C dx fs)) (hT : DictOf SdAt H t l) (hg : ∀ z x, l.lookup z = some x → ∃ ns, GoodSd h ns x) : DictOf SdAt (wo H D) t l := by
  obtain ⟨m, h1, h2, h3⟩ := hT.ex
  have n1 : t ≠ D := ne_of h1 hd (by intro z; cases z)
  refine ⟨m, by rw [wo_ne n1]; exact h1, h2, fun z a hza => ?_⟩
  obtain ⟨x, hx, hs⟩ := h3 _ _ hza
  obtain ⟨ns, g⟩ := hg _ _ hx
  exact ⟨x, hx, sd_woI hd hs g⟩
def spWorkInit (C : Addr) : Sp := fun vs H Q _ => ∃ (s d dx : Addr) (h : Int) (st : Str) (l : List (Str × Sd)), vs = [.ref s, .int h, .str st, .ref d] ∧ H s = some (.ins C dx []) ∧ DictOf SdAt H d l ∧ GoodT h l ∧ 1 ≤ h ∧ h ≤ 4 ∧ st ∈ l.map (·.1) ∧
  ∀ H' l', (∀ b o, H b = some o → b ≠ s → H' b = some o) → TabSort l l' → WorkAt C H' s h st l' → Q .non H'
theorem lookup_snoc {α : Type} {l : List (Str × α)} {z y : Str} {x : α} (hz : z ∉ l.map (·.1)) : (l ++ [(z, x)]).lookup y = if y = z then some x else l.lookup y := by
  rw [List.lookup_append]
  by_cases e : y = z
  · subst e
    rw [if_pos rfl, lookup_none hz]
    simp
  · rw [if_neg e]
    cases hl : l.lookup y with
    | some v => rfl
    | none =>
      have e2 : (y == z) = false := by simpa using e
      simp [List.lookup, e2]
section
variable {P : Program} {w : World} {K : PySem.W.Frag} {mg : Str → Option Value} {base : Heap} {CW : Addr}
theorem ok_Work_init {f : Addr} {fd : FuncData} (F : Fun K "__init__" "Work.__init__" s_Work_init f fd) (K_Work : Cls K CW) (N1 : NoAttr K CW "hands") (N2 : NoAttr K CW "start") (N3 : NoAttr K CW "table") (N4 : NoAttr K CW "names") (N5 : NoAttr K CW "ends") (N6 : NoAttr K CW "ringless")
    (Z_sorted : mg "sorted" = none) (Z_tuple : mg "tuple" = none)
    (C_is_integer : Cal P w K mg base 1 "is_integer" ["thing"] (spIsInt K)) (C_is_name : Cal P w K mg base 1 "is_name" ["thing"] (spIsName K)) (C_are_stands : Cal P w K mg base 4 "are_stands" ["thing", "hands"] spAreStands)
    (C_copied : Cal P w K mg base 1 "copied" ["stand"] spCopied) (C_is_ringless : Cal P w K mg base 2 "is_ringless" ["work"] (spRingless CW)) : FnOk P w K mg base CX0 5 f fd ["self", "hands", "start", "stands"] (spWorkInit CW) := by
  refine F.ok sc_Work_init (fun vs H Q E h => ?_) (fun cdv A outer s H vs Q E hr h => ?_)
  · obtain ⟨_, _, _, _, _, _, rfl, _⟩ := h
    rfl
  · obtain ⟨a, d, dx, h, st, l, rfl, ha, hD, g, h1, h4, hst, k⟩ := h
    have hu := hu_of hr
    refine ⟨_, (pss_cons (ps_if (PW.pt (pw_or (pt_not (pt_val (pe_cal C_is_integer (hr.mono (by decide)) (by rfl) (pa_cons (pv 1) pa_nil)))) (pw_or1 (pt_not (pt_chain op_le op_le pe_int (pv 1) pe_int)))))
      (pss_one ps_never)
      pss_nil)
      (pss_cons (ps_if (pt_not (pt_val (pe_cal C_are_stands (hr.mono (by decide)) (by rfl) (pa_cons (pv 3) (pa_cons (pv 1) pa_nil)))))
      (pss_one ps_never)
      pss_nil)
      (pss_cons (ps_if (PW.pt (pw_or (pt_not (pt_val (pe_cal C_is_name (hr.mono (by decide)) (by rfl) (pa_cons (pv 2) pa_nil)))) (pw_or1 (pt_cmp (pc_dnotin hu (pv 2) (pv 3))))))
      (pss_one ps_never)
      pss_nil)
      (pss_cons (ps_fld (pv 0) (pv 1) rfl)
      (pss_cons (ps_fld (pv 0) (pv 2) rfl)
      (pss_cons (ps_fld (pv 0) (pe_dc (own := [("name", 4)]) (g := gName 4) (tt := tYes) (by rfl) sc_Work_init.nd (pi_list (pe_callB (call_sortedDA rfl) (by rfl) Z_sorted (by decide +kernel) (pa_cons (pv 3) pa_nil))) (blkOk_by (own := [("name", 4)]) (N := N_Work_init) (sc := defScope s_Work_init) (by decide +kernel)) (fun _ _ _ _ _ => (pg_name (i := 4) sc_Work_init.nd rfl (Or.inl rfl))) (fun _ _ _ _ _ => pts_nil) (fun _ _ _ _ _ => by exact (pv 4)) (fun _ _ _ _ _ => by exact (pe_cal C_copied (hr.mono (by decide)) (by rfl) (pa_cons (pe_dget hu (pv 3) (pv 4) (fun _ _ => rfl)) pa_nil)))) rfl)
      (pss_cons (ps_fld (pv 0) (pe_callTy call_tupleA (by rfl) Z_tuple (by decide +kernel) (pa_cons (pe_callB (call_sortedDA rfl) (by rfl) Z_sorted (by decide +kernel) (pa_cons (pv 3) pa_nil)) pa_nil)) rfl)
      (pss_cons (ps_fld (pv 0) (pe_callTy call_tupleA (by rfl) Z_tuple (by decide +kernel) (pa_cons (pe_lc (own := [("name", 4)]) (g := gName 4)  (by rfl) sc_Work_init.nd (pi_tup (pe_fld (pv 0) rfl)) (blkOk_by (own := [("name", 4)]) (N := N_Work_init) (sc := defScope s_Work_init) (by decide +kernel)) (fun _ _ _ _ _ => (pg_name (i := 4) sc_Work_init.nd rfl (Or.inl rfl))) (fun _ _ _ _ _ => by exact (pts_one (pt_cmpR op_eq (pe_ix (ix_tupK (K := K)) (pe_dget hu (pe_fldK (K := K) (pv 0) (by rfl)) (pv 4) (fun _ _ => rfl)) pe_int (fun _ _ => rfl)) pe_str (nomark _)))) (fun _ _ _ _ _ => by exact (pv 4))) pa_nil)) rfl)
      (pss_one (ps_fld (pv 0) (pe_cal C_is_ringless (hr.mono (by decide)) (by rfl) (pa_cons (pv 0) pa_nil)) rfl)))))))))), ?_⟩
    walk_at "go"
    refine ⟨_, _, rfl, .int _, ?_⟩
    walk_at "go"
    refine x_nT ?_
    walk_at "go"
    refine x_yes (by omega) ?_
    walk_at "go"
    refine x_nyes (by omega) ?_
    walk_at "go"
    refine ⟨d, h, l, rfl, hD, g, fun H1 s1 => ?_⟩
    walk_at "go"
    refine x_name (g.nm _ hst) ?_
    walk_at "go"
    have hD1 := hD.same s1
    obtain ⟨m, hd, hk, hp⟩ := id hD1.ex
    refine x_ninD (l := m) (.inl hd) ?_
    rw [keyIn (by rw [hk]; exact hst)]
    refine ⟨false, rfl, x_F ?_⟩
    walk_at "go"
    have ha1 := s1 _ _ ha
    have hD0 : DictOf SdAt (wo H1 a) d l := tab_woI ha1 hD1 fun z x hz => ⟨_, g.sd z x hz⟩
    refine x_sf K_Work N1 ha1 (by decide) ?_
    walk_at "go"
    refine x_sf K_Work N2 upd_same (len_put (show ([] : List (Str × V)).length < 999 by decide)) ?_
    rw [upd_upd]
    walk_at "go"
    have sA : L2.Same (wo H1 a) (upd H1 a (.ins CW dx (putF "start" (.str st) (putF "hands" (.int h) [])))) := same_wo (L2.Same.refl _)
    have hA : upd H1 a (.ins CW dx (putF "start" (.str st) (putF "hands" (.int h) []))) a = some (.ins CW dx (putF "start" (.str st) (putF "hands" (.int h) []))) := upd_same
    generalize upd H1 a (.ins CW dx (putF "start" (.str st) (putF "hands" (.int h) []))) = H2 at sA hA ⊢
    have hD2 := hD0.same sA
    obtain ⟨m, hd, hk, hp⟩ := id hD2.ex
    have ek : (strK V.ref m).map (·.1) = (m.map (·.1)).map Sum.inr := by rw [List.map_map, List.map_map]; rfl
    have g2 := g.l2
    have hml : m.length = l.length := by
      have := congrArg List.length hk
      rwa [List.length_map, List.length_map] at this
    refine ⟨d, _, m.map (·.1), rfl, .inl hd, ek, by rw [List.length_map]; omega, fun ys q hperm hsort hq => runL (SqL.of upd_same) fun D hD => ?_⟩
    rw [hk] at hperm
    have hqD : q ≠ D := ne_of_none upd_same hD
    have hDn : H2 D = none := by rw [upd_ne hqD.symm] at hD; exact hD
    have ynd : ys.Nodup := (hperm.nodup_iff).mpr g.nd
    have ylen : ys.length = l.length := by rw [hperm.length_eq, List.length_map]
    refine dcL (xs := ys.map V.str) (fun i H' => L2.Same H2 H' ∧ H' q = some (.lst (ys.map V.str)) ∧ ∃ (l' : List (Str × Sd)) (m' : List (Str × Addr)), H' D = some (.dK (strK V.ref m')) ∧ m'.map (·.1) = ys.take i ∧ l'.map (·.1) = ys.take i ∧
      (∀ z b, (z, b) ∈ m' → ∃ x', l'.lookup z = some x' ∧ SdAt (wo H' D) b x') ∧ ∀ z x', l'.lookup z = some x' → ∃ x, l.lookup z = some x ∧ SdSort x x') ?_ ?_ ?_ ?_
    · exact ⟨same_upd (same_new hq) hDn, by rw [upd_ne hqD]; exact upd_same, [], [], upd_same, by simp, by simp, by simp, by simp⟩
    · exact fun t H' _ h => SqL.of h.2.1
    · rintro i y H3 hy ⟨s3, hq3, l', m', hD3, km, kl, hm3, hs3⟩
      rw [List.getElem?_map] at hy
      cases hz : ys[i]? with
      | none => rw [hz] at hy; cases hy
      | some z =>
        rw [hz] at hy
        have ex : V.str z = y := Option.some.inj hy
        subst ex
        have hi : i < ys.length := (List.getElem?_eq_some_iff.mp hz).1
        have hzl : z ∈ l.map (·.1) := hperm.mem_iff.mp (List.mem_of_getElem? hz)
        have hzt : z ∉ ys.take i := fun hm => by
          obtain ⟨j, hj, he⟩ := List.getElem_of_mem hm
          have hj2 : j < i := by simp at hj; omega
          have h5 : ys[j]? = some z := by
            rw [List.getElem_take] at he
            rw [List.getElem?_eq_getElem (by omega), he]
          have := L2.nd_ix ynd h5 hz
          omega
        obtain ⟨x, hx⟩ := lookup_isSome hzl
        obtain ⟨m2, b, hd2, hb, hbx⟩ := hD2.at hx
        have gx := g.sd z x hx
        walk_at "go"
        refine ⟨rfl, ?_⟩
        walk_at "go"
        refine x_getL (l := m2) (.inl (s3 _ _ hd2)) hb ?_
        walk_at "go"
        refine ⟨b, x, h, _, rfl, hbx.same s3, gx, fun H4 p x' s4 hp4 hpx hsx => ?_⟩
        have hD4 := s4 _ _ hD3
        have hm4 : ∀ z b, (z, b) ∈ m' → ∃ y, SdAt H4 b y := fun z b hzb => by
          obtain ⟨y, _, hy⟩ := hm3 _ _ hzb
          exact ⟨y, hy.same (wo_same.trans s4)⟩
        refine ⟨_, Sum.inr z, rfl, hD4, sz_lt (by rw [List.length_map]; have := congrArg List.length km; simp at this; omega), same_upd (s3.trans s4) hDn, by rw [upd_ne hqD]; exact s4 _ _ hq3, l' ++ [(z, x')], m' ++ [(z, p)], ?_, ?_, ?_, ?_, ?_⟩
        · rw [upd_same, strK_put, putL_new]
          rw [km]
          exact hzt
        · rw [List.map_append, km, take_succ_get hz]
          rfl
        · rw [List.map_append, kl, take_succ_get hz]
          rfl
        · intro y c hyc
          rw [wo_upd]
          rw [lookup_snoc (by rw [kl]; exact hzt)]
          rcases List.mem_append.mp hyc with hyc1 | hyc1
          · have hne : y ≠ z := fun e => by
              subst e
              exact hzt (by rw [← km]; exact List.mem_map.mpr ⟨_, hyc1, rfl⟩)
            obtain ⟨v, hv, hv2⟩ := hm3 _ _ hyc1
            rw [if_neg hne]
            exact ⟨v, hv, hv2.same (wo_mono s4)⟩
          · have e := List.mem_singleton.mp hyc1
            injection e with e1 e2
            subst e1 e2
            rw [if_pos rfl]
            exact ⟨x', rfl, sd_woT hD4 hm4 hpx (gx.sort hsx)⟩
        · intro y v hv
          rw [lookup_snoc (by rw [kl]; exact hzt)] at hv
          by_cases e : y = z
          · subst e
            rw [if_pos rfl] at hv
            cases hv
            exact ⟨x, hx, hsx⟩
          · rw [if_neg e] at hv
            exact hs3 y v hv
    · rintro H3 ⟨s3, hq3, l', m', hD3, km, kl, hm3, hs3⟩
      rw [List.length_map, List.take_length] at km kl
      have T : TabSort l l' := ⟨by rw [kl]; exact hperm, by rw [kl]; exact hsort, hs3⟩
      have g' := T.good g
      have hT3 : DictOf SdAt H3 D l' := ⟨m', hD3, by rw [km, kl], fun z b hzb => by
        obtain ⟨v, hv, hv2⟩ := hm3 _ _ hzb
        exact ⟨v, hv, hv2.same wo_same⟩⟩
      have ha3 := s3 _ _ hA
      have hT3w : DictOf SdAt (wo H3 a) D l' := tab_woI ha3 hT3 fun z x hz => ⟨_, g'.sd z x hz⟩
      walk_at "go"
      refine x_sf K_Work N3 ha3 (len_put (len_put (show ([] : List (Str × V)).length < 998 by decide))) ?_
      have sB : L2.Same (wo H3 a) (upd H3 a (.ins CW dx (putF "table" (.ref D) (putF "start" (.str st) (putF "hands" (.int h) []))))) := same_wo (L2.Same.refl _)
      have hB : upd H3 a (.ins CW dx (putF "table" (.ref D) (putF "start" (.str st) (putF "hands" (.int h) [])))) a = some (.ins CW dx (putF "table" (.ref D) (putF "start" (.str st) (putF "hands" (.int h) [])))) := upd_same
      generalize upd H3 a (.ins CW dx (putF "table" (.ref D) (putF "start" (.str st) (putF "hands" (.int h) [])))) = H4 at sB hB ⊢
      have hd4 : H4 d = some (.dK (strK V.ref m)) := by
        have nda : d ≠ a := ne_of (s3 _ _ hd) ha3 (by intro z; cases z)
        exact sB _ _ (by rw [wo_ne nda]; exact s3 _ _ hd)
      walk_at "go"
      refine ⟨d, _, m.map (·.1), rfl, .inl hd4, ek, by rw [List.length_map]; omega, fun ys2 q2 hperm2 hsort2 hq2 => ?_⟩
      rw [hk] at hperm2
      have ey : ys2 = ys := sorted_one hsort2 hsort (hperm2.trans hperm.symm)
      rw [ey]
      walk_at "go"
      refine x_tupL (SqL.of upd_same) fun nA hnA => ?_
      have hq2A : q2 ≠ nA := ne_of_none upd_same hnA
      have hnA0 : H4 nA = none := by rw [upd_ne hq2A.symm] at hnA; exact hnA
      have sC : L2.Same H4 (upd (upd H4 q2 (.lst (ys.map V.str))) nA (.tup (ys.map V.str))) := same_upd (same_new hq2) hnA0
      have hC : (upd (upd H4 q2 (.lst (ys.map V.str))) nA (.tup (ys.map V.str))) nA = some (.tup (ys.map V.str)) := upd_same
      generalize upd (upd H4 q2 (.lst (ys.map V.str))) nA (.tup (ys.map V.str)) = H5 at sC hC ⊢
      walk_at "go"
      refine x_sf K_Work N4 (sC _ _ hB) (len_put (len_put (len_put (show ([] : List (Str × V)).length < 997 by decide)))) ?_
      have ha5 := sC _ _ hB
      have nAa : nA ≠ a := ne_of hC ha5 (by intro z; cases z)
      have sD : L2.Same (wo H3 a) (upd H5 a (.ins CW dx (putF "names" (.ref nA) (putF "table" (.ref D) (putF "start" (.str st) (putF "hands" (.int h) [])))))) := same_upd (sB.trans sC) wo_at
      have hDD : upd H5 a (.ins CW dx (putF "names" (.ref nA) (putF "table" (.ref D) (putF "start" (.str st) (putF "hands" (.int h) []))))) a = some (.ins CW dx (putF "names" (.ref nA) (putF "table" (.ref D) (putF "start" (.str st) (putF "hands" (.int h) []))))) := upd_same
      have hN6 : upd H5 a (.ins CW dx (putF "names" (.ref nA) (putF "table" (.ref D) (putF "start" (.str st) (putF "hands" (.int h) []))))) nA = some (.tup (ys.map V.str)) := by rw [upd_ne nAa]; exact hC
      generalize upd H5 a (.ins CW dx (putF "names" (.ref nA) (putF "table" (.ref D) (putF "start" (.str st) (putF "hands" (.int h) []))))) = H6 at sD hDD hN6 ⊢
      have hT6 := hT3w.same sD
      walk_at "go"
      have lkT : ∀ (fs : List (Str × V)), (putF "names" (.ref nA) (putF "table" (.ref D) fs)).lookup ("table" : Str) = some (.ref D) := fun fs => by
        rw [lookup_putF, if_neg (by decide +kernel), lookup_putF, if_pos rfl]
      have lkN : ∀ (fs : List (Str × V)), (putF "names" (.ref nA) fs).lookup ("names" : Str) = some (.ref nA) := fun fs => by
        rw [lookup_putF, if_pos rfl]
      refine x_fld K_Work N4 hDD (lkN _) ?_
      refine runT (SqT.of hN6) ?_
      intro E1 hE1
      refine lcT (xs := ys.map V.str) (fun i H' => L2.Same H6 H' ∧ H' E1 = some (.lst (((ys.take i).filter (finAt l')).map V.str))) ?_ ?_ ?_ ?_
      · exact ⟨same_new hE1, upd_same⟩
      · exact fun i H' _ h => SqT.of (h.1 _ _ hN6)
      · rintro i y H7 hy ⟨s7, hE7⟩
        rw [List.getElem?_map] at hy
        cases hz : ys[i]? with
        | none => rw [hz] at hy; cases hy
        | some z =>
          rw [hz] at hy
          have ex : V.str z = y := Option.some.inj hy
          subst ex
          have hi : i < ys.length := (List.getElem?_eq_some_iff.mp hz).1
          obtain ⟨x', hx'⟩ := lookup_isSome (l := l') (z := z) (by rw [kl]; exact List.mem_of_getElem? hz)
          obtain ⟨m2, b, hd2, hb, hbx⟩ := (hT6.same s7).at hx'
          have efin : finAt l' z = isFin x' := by
            unfold finAt
            rw [hx']
            rfl
          have efil : (ys.take (i + 1)).filter (finAt l') = (ys.take i).filter (finAt l') ++ (if isFin x' = true then [z] else []) := by
            rw [take_succ_get hz, List.filter_append]
            congr 1
            rw [List.filter_cons, efin]
            rfl
          have llen : ((ys.take i).filter (finAt l')).length ≤ 63 := Nat.le_trans (List.length_filter_le _ _) (by rw [List.length_take]; omega)
          rw [efil]
          walk_at "go"
          refine ⟨rfl, ?_⟩
          walk_at "go"
          refine x_fld K_Work N3 (s7 _ _ hDD) (lkT _) ?_
          walk_at "go"
          refine x_getL (l := m2) (.inl hd2) hb ?_
          walk_at "go"
          cases x' with
          | fin =>
            have hb1 : H7 b = some (.tup [.str "end"]) := hbx
            refine x_ixt 0 (SqT.of hb1) rfl rfl ?_
            walk_at "go"
            refine x_yes rfl ?_
            walk_at "go"
            refine ⟨_, hE7, sz_lt (by rw [List.length_map]; omega), same_upd s7 hE1, ?_⟩
            rw [upd_same]
            simp [isFin]
          | chance l2 =>
            obtain ⟨d2, hb1, _⟩ := hbx
            refine x_ixt 0 (SqT.of hb1) rfl rfl ?_
            walk_at "go"
            refine x_no (by decide +kernel) ?_
            refine ⟨s7, ?_⟩
            rw [hE7]
            simp [isFin]
          | hand k2 l2 =>
            obtain ⟨d2, hb1, _⟩ := hbx
            refine x_ixt 0 (SqT.of hb1) rfl rfl ?_
            walk_at "go"
            refine x_no (by decide +kernel) ?_
            refine ⟨s7, ?_⟩
            rw [hE7]
            simp [isFin]
      · rintro H7 ⟨s7, hE7⟩
        rw [List.length_map, List.take_length] at hE7
        walk_at "go"
        refine x_tupL (SqL.of hE7) fun eA heA => ?_
        have s8 : L2.Same H6 (upd H7 eA (.tup ((ys.filter (finAt l')).map V.str))) := s7.trans (same_new heA)
        have hE8 : (upd H7 eA (.tup ((ys.filter (finAt l')).map V.str))) eA = some (.tup ((ys.filter (finAt l')).map V.str)) := upd_same
        generalize upd H7 eA (.tup ((ys.filter (finAt l')).map V.str)) = H8 at s8 hE8 ⊢
        walk_at "go"
        refine x_sf K_Work N5 (s8 _ _ hDD) (len_put (len_put (len_put (len_put (show ([] : List (Str × V)).length < 996 by decide))))) ?_
        have ha8 := s8 _ _ hDD
        have eAa : eA ≠ a := ne_of hE8 ha8 (by intro z; cases z)
        have sE : L2.Same (wo H6 a) (upd H8 a (.ins CW dx (putF "ends" (.ref eA) (putF "names" (.ref nA) (putF "table" (.ref D) (putF "start" (.str st) (putF "hands" (.int h) []))))))) := same_wo s8
        have hE9 : upd H8 a (.ins CW dx (putF "ends" (.ref eA) (putF "names" (.ref nA) (putF "table" (.ref D) (putF "start" (.str st) (putF "hands" (.int h) [])))))) eA = some (.tup ((ys.filter (finAt l')).map V.str)) := by rw [upd_ne eAa]; exact hE8
        have hD9 : upd H8 a (.ins CW dx (putF "ends" (.ref eA) (putF "names" (.ref nA) (putF "table" (.ref D) (putF "start" (.str st) (putF "hands" (.int h) [])))))) a = some (.ins CW dx (putF "ends" (.ref eA) (putF "names" (.ref nA) (putF "table" (.ref D) (putF "start" (.str st) (putF "hands" (.int h) [])))))) := upd_same
        generalize upd H8 a (.ins CW dx (putF "ends" (.ref eA) (putF "names" (.ref nA) (putF "table" (.ref D) (putF "start" (.str st) (putF "hands" (.int h) [])))))) = H9 at sE hE9 hD9 ⊢
        have hT6w : DictOf SdAt (wo H6 a) D l' := tab_woI hDD hT6 fun z x hz => ⟨_, g'.sd z x hz⟩
        have hN9 : H9 nA = some (.tup (ys.map V.str)) := sE _ _ (by rw [wo_ne nAa]; exact hN6)
        walk_at "go"
        refine ⟨a, dx, D, nA, _, l', ys, h, l'.map (·.1), rfl, hD9, by rw [lookup_putF, if_neg (by decide +kernel)]; exact lkT _, by rw [lookup_putF, if_neg (by decide +kernel)]; exact lkN _, hT6w.same sE, hN9, by omega, fun z hz => ?_, fun H10 s10 => ?_⟩
        · obtain ⟨x, hx⟩ := lookup_isSome (l := l') (z := z) (by rw [kl]; exact hz)
          exact ⟨x, hx, g'.sd z x hx⟩
        walk_at "go"
        refine x_sf K_Work N6 (s10 _ _ hD9) (len_put (len_put (len_put (len_put (len_put (show ([] : List (Str × V)).length < 995 by decide)))))) ?_
        have sF : L2.Same (wo H9 a) (upd H10 a (.ins CW dx (wkF h st D nA eA (ringB l' ys)))) := same_wo s10
        refine k _ l' (fun b o e n => ?_) T ⟨⟨dx, D, nA, eA, ?_, ?_, ?_, ?_⟩⟩
        · have e1 : wo H1 a b = some o := by rw [wo_ne n]; exact s1 _ _ e
          have e2 := s3 _ _ (sA _ _ e1)
          have e3 : H6 b = some o := sD _ _ (by rw [wo_ne n]; exact e2)
          have e4 : H9 b = some o := sE _ _ (by rw [wo_ne n]; exact e3)
          exact sF _ _ (by rw [wo_ne n]; exact e4)
        · rw [kl]
          exact upd_same
        · exact (tab_woI hD9 (hT6w.same sE) fun z x hz => ⟨_, g'.sd z x hz⟩).same sF
        · rw [kl]
          exact sF _ _ (by rw [wo_ne nAa]; exact hN9)
        · rw [kl]
          exact sF _ _ (by rw [wo_ne eAa]; exact hE9)
end
def kindS : Sd → Str
  | .fin => "end"
  | .chance _ => "chance"
  | .hand _ _ => "hand"
theorem sd_tup {H : Hp} {a : Addr} {x : Sd} (h : SdAt H a x) : ∃ xs, H a = some (.tup xs) ∧ xs[0]? = some (.str (kindS x)) := by
  cases x with
  | fin => exact ⟨_, h, rfl⟩
  | chance l =>
    obtain ⟨d, h1, _⟩ := h
    exact ⟨_, h1, rfl⟩
  | hand k l =>
    obtain ⟨d, h1, _⟩ := h
    exact ⟨_, h1, rfl⟩
theorem kind_fin (x : Sd) : decide (kindS x = "end") = isFin x := by
  cases x with
  | fin => rfl
  | chance l => exact decide_eq_false (by show ¬ (("chance" : Str) = "end"); decide +kernel)
  | hand k l => exact decide_eq_false (by show ¬ (("hand" : Str) = "end"); decide +kernel)
/-! ### wishes -/
def valueV : V → Bool
  | .int i => decide (-99 ≤ i) && decide (i ≤ 99)
  | _ => false
def spIsValue (K : PySem.W.Frag) : Sp := fun vs H Q _ => ∃ x k, vs = [x] ∧ Kd K H x k ∧ Q (.bl (valueV x)) H
def worthsB (kvs : List (Key × V)) : Bool := decide (kvs.length ≤ 100) && kvs.all fun p => nameV (kV p.1) && valueV p.2
def kvFine (K : PySem.W.Frag) (H : Hp) (kvs : List (Key × V)) : Prop := ∀ p ∈ kvs, (∀ z, p.1 = Sum.inr z → z.length ≤ 10000) ∧ ∃ k, Kd K H p.2 k
/-- of a dict; of anything else it is False -/
def spAreWorths (K : PySem.W.Frag) : Sp := fun vs H Q _ => (∃ d kvs, vs = [.ref d] ∧ H d = some (.dK kvs) ∧ kvFine K H kvs ∧ ∀ H', L2.Same H H' → Q (.bl (worthsB kvs)) H') ∨
  ∃ x k, vs = [x] ∧ Kd K H x k ∧ k ≠ .dict ∧ Q (.bl false) H
theorem kV_kd {K : PySem.W.Frag} {H : Hp} (k : Key) : ∃ n, Kd K H (kV k) n := by
  cases k with
  | inl i => exact ⟨_, .int i⟩
  | inr z => exact ⟨_, .str z⟩
section
variable {P : Program} {w : World} {K : PySem.W.Frag} {mg : Str → Option Value} {base : Heap}
theorem ok_is_value {f : Addr} {fd : FuncData} (F : Fun K "is_value" "is_value" s_is_value f fd) (C_is_integer : Cal P w K mg base 1 "is_integer" ["thing"] (spIsInt K)) : FnOk P w K mg base CX0 2 f fd ["thing"] (spIsValue K) := by
  refine F.ok sc_is_value (fun vs H Q E h => ?_) (fun cdv A outer s H vs Q E hr h => ?_)
  · obtain ⟨_, _, rfl, _⟩ := h
    rfl
  · obtain ⟨x, k, rfl, hk, q⟩ := h
    refine ⟨_, (pss_one (ps_ret (pe_and (pe_cal C_is_integer (hr.mono (by decide)) (by rfl) (pa_cons (pv 0) pa_nil)) (pe_one (pe_chain op_le op_le (pe_un un_neg pe_int) (pv 0) pe_int))))), ?_⟩
    walk_at "go"
    refine ⟨x, k, rfl, hk, ?_⟩
    walk_at "go"
    cases hk with
    | int i =>
      refine x_T ?_
      walk_at "go"
      have e : valueV (.int i) = (decide (-99 ≤ i) && decide (i ≤ 99)) := rfl
      rw [e] at q
      refine x_dec (fun h1 => ?_) (fun h1 => ?_)
      · rw [decide_eq_true h1, Bool.true_and] at q
        walk_at "go"
        exact q
      · rw [decide_eq_false h1, Bool.false_and] at q
        exact q
    | non => exact x_F q
    | bl b => exact x_F q
    | str z => exact x_F q
    | lst h => exact x_F q
    | tup h => exact x_F q
    | dict h => exact x_F q
theorem ok_are_worths {f : Addr} {fd : FuncData} (F : Fun K "are_worths" "are_worths" s_are_worths f fd) (Z_dict : mg "dict" = none) (Z_len : mg "len" = none) (Z_isinstance : mg "isinstance" = none)
    (C_is_name : Cal P w K mg base 1 "is_name" ["thing"] (spIsName K)) (C_is_value : Cal P w K mg base 2 "is_value" ["thing"] (spIsValue K)) : FnOk P w K mg base CX0 3 f fd ["thing"] (spAreWorths K) := by
  refine F.ok sc_are_worths (fun vs H Q E h => ?_) (fun cdv A outer s H vs Q E hr h => ?_)
  · rcases h with ⟨_, _, rfl, _⟩ | ⟨_, _, rfl, _⟩ <;> rfl
  · refine ⟨_, (pss_cons (ps_if (PW.pt (pw_or (pt_not (pt_val (pe_callB call_isi (by rfl) Z_isinstance (by decide +kernel) (pa_cons (pv 0) (pa_cons (pe_bltn (v := .ty "dict") (by rfl) Z_dict (by decide +kernel) rfl) pa_nil))))) (pw_or1 (pt_cmpR op_gt (pe_callB call_lenDA (by rfl) Z_len (by decide +kernel) (pa_cons (pv 0) pa_nil)) pe_int (nomark _)))))
      (pss_one (ps_ret pe_bl))
      pss_nil)
      (pss_cons (ps_lock (ps_for PassesOwn.never rfl (pi_items (pv 0)) (pg_tup rfl (pgs_cons (pg_name (i := 1) sc_are_worths.nd rfl (Or.inl rfl)) (pgs_cons (pg_name (i := 2) sc_are_worths.nd rfl (Or.inl rfl)) pgs_nil)))
      (pss_one (ps_if (PW.pt (pw_or (pt_not (pt_val (pe_cal C_is_name (hr.mono (by decide)) (by rfl) (pa_cons (pv 1) pa_nil)))) (pw_or1 (pt_not (pt_val (pe_cal C_is_value (hr.mono (by decide)) (by rfl) (pa_cons (pv 2) pa_nil)))))))
      (pss_one (ps_ret pe_bl))
      pss_nil))))
      (pss_one (ps_ret pe_bl)))), ?_⟩
    rcases h with ⟨d, kvs, rfl, hd, hf, q⟩ | ⟨x, k, rfl, hk, hn, q⟩
    · walk_at "go"
      refine x_isiDict (.dict (.inl hd)) ?_
      walk_at "go"
      refine x_nT ?_
      walk_at "go"
      refine x_lenD (.inl hd) ?_
      walk_at "go"
      refine x_dec (fun hc => ?_) (fun hc => ?_)
      · walk_at "go"
        have e : worthsB kvs = false := by
          show (decide (kvs.length ≤ 100) && _) = false
          rw [decide_eq_false (by omega)]
          rfl
        rw [e] at q
        exact q H (L2.Same.refl H)
      · walk_at "go"
        refine x_lock hd trivial (fun od => ?_)
        walk_at "go"
        refine lpI (fun i σ H' => ∃ v1 v2, σ = [some (.ref d), v1, v2] ∧ L2.Same (upd H d (.frz od (.dK kvs))) H' ∧ ∀ p ∈ kvs.take i, (nameV (kV p.1) && valueV p.2) = true) upd_same ?_ ?_ ?_ ?_
        · exact ⟨none, none, rfl, L2.Same.refl _, by simp⟩
        · exact fun i σ H' _ ⟨_, _, _, s1, _⟩ => s1 d _ upd_same
        · rintro i k0 v0 σ H' T hi ⟨v1, v2, rfl, s1, hall⟩ hT
          have hm : (k0, v0) ∈ kvs := List.mem_of_getElem? hi
          obtain ⟨hkz, kn, hkn⟩ := hf _ hm
          have s2 : L2.Same (upd H d (.frz od (.dK kvs))) (upd H' T (.tup [kV k0, v0])) := same_upd s1 (s1.free hT)
          have sH : L2.Same H (upd (upd H' T (.tup [kV k0, v0])) d (.dK kvs)) := fun b o e => by
            by_cases hbd : b = d
            · subst hbd
              rw [hd] at e
              rw [upd_same, e]
            · rw [upd_ne hbd]
              exact s2 b o (by rw [upd_ne hbd]; exact e)
          have hfz : (upd H' T (.tup [kV k0, v0])) d = some (.frz od (.dK kvs)) := s2 d _ upd_same
          have bad : (nameV (kV k0) && valueV v0) = false → Q (.bl false) (upd (upd H' T (.tup [kV k0, v0])) d (.dK kvs)) := fun hb => by
            have e : worthsB kvs = false := by
              have : (kvs.all fun p => nameV (kV p.1) && valueV p.2) = false := by
                cases ea : (kvs.all fun p => nameV (kV p.1) && valueV p.2) with
                | false => rfl
                | true =>
                  have := List.all_eq_true.mp ea _ hm
                  rw [hb] at this
                  cases this
              show (decide (kvs.length ≤ 100) && (kvs.all fun p => nameV (kV p.1) && valueV p.2)) = false
              rw [this]
              simp
            rw [e] at q
            exact q _ sH
          refine x_g2 (SqT.of upd_same) ?_
          walk_at "go"
          obtain ⟨nk, hnk⟩ := kV_kd (K := K) (H := upd H' T (.tup [kV k0, v0])) k0
          refine ⟨_, nk, rfl, ⟨hnk, fun z hz => ?_⟩, ?_⟩
          · cases k0 with
            | inl i => cases hz
            | inr y =>
              cases hz
              exact hkz _ rfl
          walk_at "go"
          cases en : nameV (kV k0) with
          | false =>
            walk_at "go"
            exact ⟨hfz, bad (by rw [en]; rfl)⟩
          | true =>
            walk_at "go"
            refine ⟨v0, kn, rfl, (hkn.held hd).same s2, ?_⟩
            walk_at "go"
            cases ev : valueV v0 with
            | false =>
              walk_at "go"
              exact ⟨hfz, bad (by rw [en, ev]; rfl)⟩
            | true =>
              walk_at "go"
              refine ⟨_, _, rfl, s2, fun p hp => ?_⟩
              rw [take_succ_get hi] at hp
              rcases List.mem_append.mp hp with hp | hp
              · exact hall p hp
              · rw [List.mem_singleton.mp hp, en, ev]
                rfl
        · rintro σ H' ⟨v1, v2, rfl, s1, hall⟩
          have hfz : H' d = some (.frz od (.dK kvs)) := s1 d _ upd_same
          refine ⟨hfz, ?_⟩
          walk_at "go"
          have e : worthsB kvs = true := by
            rw [List.take_length] at hall
            show (decide (kvs.length ≤ 100) && _) = true
            rw [decide_eq_true (by omega), List.all_eq_true.mpr hall]
            rfl
          rw [e] at q
          refine q _ fun b o e => ?_
          by_cases hbd : b = d
          · subst hbd
            rw [hd] at e
            rw [upd_same, e]
          · rw [upd_ne hbd]
            exact s1 b o (by rw [upd_ne hbd]; exact e)
    · walk_at "go"
      refine x_isiDict hk ?_
      walk_at "go"
      cases k with
      | dict => exact absurd rfl hn
      | _ =>
        refine x_nF ?_
        walk_at "go"
        exact q
end
/-! ### a wish as an object -/
def wF (t : Addr) (e : Int) (b : Bool) : List (Str × V) := putF "coming" (.bl b) (putF "endless" (.int e) (putF "table" (.ref t) []))
theorem wF_table (t : Addr) (e : Int) (b : Bool) : (wF t e b).lookup ("table" : Str) = some (.ref t) := by
  unfold wF
  rw [lookup_putF, if_neg (by decide +kernel), lookup_putF, if_neg (by decide +kernel), lookup_putF, if_pos rfl]
theorem wF_endless (t : Addr) (e : Int) (b : Bool) : (wF t e b).lookup ("endless" : Str) = some (.int e) := by
  unfold wF
  rw [lookup_putF, if_neg (by decide +kernel), lookup_putF, if_pos rfl]
theorem wF_coming (t : Addr) (e : Int) (b : Bool) : (wF t e b).lookup ("coming" : Str) = some (.bl b) := by
  unfold wF
  rw [lookup_putF, if_pos rfl]
def comingB (l : List (Str × Int)) (e : Int) : Bool := l.all fun q => decide (e ≤ q.2)
/-- what may become a wish -/
structure GoodW (l : List (Str × Int)) (e : Int) : Prop where
  nd : (l.map (·.1)).Nodup
  len : l.length ≤ 63
  nm : ∀ q ∈ l, NameS q.1
  lo : ∀ q ∈ l, -99 ≤ q.2 ∧ q.2 ≤ 99
  elo : -99 ≤ e ∧ e ≤ 99
  side : Side e l
/-- a wish with the worths l (in any order) stands at p -/
structure WishAt (C : Addr) (H : Hp) (p : Addr) (l : List (Str × Int)) (e : Int) : Prop where
  ex : ∃ dx t l', H p = some (.ins C dx (wF t e (comingB l e))) ∧ H t = some (.dK (strK V.int l')) ∧ l'.Perm l ∧ sortedS (l'.map (·.1)) = true
theorem WishAt.same {C : Addr} {H H' : Hp} {p : Addr} {l : List (Str × Int)} {e : Int} (h : WishAt C H p l e) (s : L2.Same H H') : WishAt C H' p l e := by
  obtain ⟨dx, t, l', h1, h2, h3⟩ := h.ex
  exact ⟨dx, t, l', s _ _ h1, s _ _ h2, h3⟩
def spWishInit (C : Addr) : Sp := fun vs H Q _ => ∃ (s d dx : Addr) (e : Int) (l : List (Str × Int)), vs = [.ref s, .ref d, .int e] ∧ H s = some (.ins C dx []) ∧ H d = some (.dK (strK V.int l)) ∧ GoodW l e ∧
  ∀ H', (∀ b o, H b = some o → b ≠ s → H' b = some o) → WishAt C H' s l e → Q .non H'
def spWorths (C : Addr) : Sp := fun vs H Q _ => ∃ (s : Addr) (e : Int) (l : List (Str × Int)), vs = [.ref s] ∧ WishAt C H s l e ∧ (l.map (·.1)).Nodup ∧ l.length ≤ 1000 ∧
  ∀ H' D l', L2.Same H H' → H D = none → H' D = some (.dK (strK V.int l')) → l'.Perm l → Q (.ref D) H'
def negL (l : List (Str × Int)) : List (Str × Int) := l.map fun q => (q.1, -q.2)
def spMirrored (C : Addr) : Sp := fun vs H Q _ => ∃ (s : Addr) (e : Int) (l : List (Str × Int)), vs = [.ref s] ∧ WishAt C H s l e ∧ GoodW l e ∧
  ∀ H' p, L2.Same H H' → H p = none → WishAt C H' p (negL l) (-e) → Q (.ref p) H'
def eqWB (l1 l2 : List (Str × Int)) (e1 e2 : Int) : Bool := decide (e1 = e2)
/-- == where the worths are the same ones -/
def spWishEq (C : Addr) : Sp := fun vs H Q _ => ∃ (a b : Addr) (e1 e2 : Int) (l1 l2 : List (Str × Int)), vs = [.ref a, .ref b] ∧ WishAt C H a l1 e1 ∧ WishAt C H b l2 e2 ∧ l1.Perm l2 ∧ (l1.map (·.1)).Nodup ∧ e1 = e2 ∧ Q (.bl true) H
theorem worthsB_good {l : List (Str × Int)} {e : Int} (g : GoodW l e) : worthsB (strK V.int l) = true := by
  show (decide ((strK V.int l).length ≤ 100) && _) = true
  rw [decide_eq_true (by rw [List.length_map]; have := g.len; omega), Bool.true_and, List.all_map]
  refine List.all_eq_true.mpr fun q hq => ?_
  show (nameV (.str q.1) && valueV (.int q.2)) = true
  have h := g.lo q hq
  have h2 : valueV (.int q.2) = true := by
    show (decide _ && decide _) = true
    rw [decide_eq_true h.1, decide_eq_true h.2]
    rfl
  rw [(g.nm q hq).v, h2]
  rfl
theorem kvFine_int {K : PySem.W.Frag} {H : Hp} {l : List (Str × Int)} (h : ∀ q ∈ l, NameS q.1) : kvFine K H (strK V.int l) := fun p hp => by
  obtain ⟨q, hq, rfl⟩ := List.mem_map.mp hp
  refine ⟨fun z hz => ?_, _, .int _⟩
  cases hz
  have := (h q hq).len
  omega
/-- [e op v for v in list(d.values())] -/
theorem lc_vals {K : PySem.W.Frag} {σ : L2.St} {H : Hp} {Qd : Addr → Hp → Prop} {d : Addr} {l : List (Str × Int)} {e : Int} {g : Int → Int → Bool} {j n : Nat} (hd : Rd H d (.dK (strK V.int l))) (hl : l.length ≤ 1000) (hj : j ≠ n) (hn : n < σ.length)
    (h2 : σ[j]? = some (some (.int e))) (k : ∀ H' D, L2.Same H H' → H D = none → H' D = some (.lst ((l.map fun q => g e q.2).map V.bl)) → Qd D H') :
    rListVA (.ref d) H fun x H1 => RunL K (fun J H1 => ∀ D, H1 D = none → LcP J (gName n) tYes (tOp (rI0 fun i j => V.bl (g i j)) (tVar j) (tVar n)) [n] σ D (Qd D) H1) x H1 := by
  refine x_listv hd fun p1 hp1 => runL (SqL.of upd_same) fun D hD => ?_
  have hp1D : p1 ≠ D := ne_of_none upd_same hD
  have hD0 : H D = none := by rw [upd_ne hp1D.symm] at hD; exact hD
  have eV : (strK V.int l).map Prod.snd = l.map fun q => V.int q.2 := by rw [List.map_map]; rfl
  rw [eV]
  refine lcL (xs := l.map fun q => V.int q.2) (fun t H' => L2.Same H H' ∧ H' p1 = some (.lst (l.map fun q => V.int q.2)) ∧ H' D = some (.lst (((l.take t).map fun q => g e q.2).map V.bl))) ?_ ?_ ?_ ?_
  · exact ⟨same_upd (same_new hp1) hD0, by rw [upd_ne hp1D]; exact upd_same, upd_same⟩
  · exact fun t H' _ h => SqL.of h.2.1
  · rintro t x H' hx ⟨s1, hp, hD1⟩
    rw [List.getElem?_map] at hx
    cases hq : l[t]? with
    | none => rw [hq] at hx; cases hx
    | some q =>
      rw [hq] at hx
      have ex : V.int q.2 = x := Option.some.inj hx
      subst ex
      have hlt : t < l.length := (List.getElem?_eq_some_iff.mp hq).1
      refine x_g1 ⟨?_, x_yes1 (x_T (x_op (x_var (v := .int e) ?_ (x_var (v := .int q.2) ?_ (x_I0 ⟨_, hD1, sz_lt (by simp; omega), same_upd s1 hD0, by rw [upd_ne hp1D]; exact hp, ?_⟩)))))⟩
      · show ((σ.set n none).set n (some (.int q.2))).set n none = σ.set n none
        rw [List.set_set, List.set_set]
      · show ((σ.set n none).set n _)[j]? = _
        rw [List.getElem?_set_ne hj.symm, List.getElem?_set_ne hj.symm]
        exact h2
      · show ((σ.set n none).set n _)[n]? = _
        rw [List.getElem?_set_self (by rw [List.length_set]; exact hn)]
      · rw [upd_same, take_succ_get hq]
        simp
  · rintro H' ⟨s1, hp, hD1⟩
    rw [List.length_map, List.take_length] at hD1
    exact k H' D s1 hD0 hD1
section
variable {P : Program} {w : World} {K : PySem.W.Frag} {mg : Str → Option Value} {base : Heap} {C : Addr}
theorem ok_Wish_init {f : Addr} {fd : FuncData} (F : Fun K "__init__" "Wish.__init__" s_Wish_init f fd) (K_Wish : Cls K C) (N1 : NoAttr K C "table") (N2 : NoAttr K C "endless") (N3 : NoAttr K C "coming") (Z_list : mg "list" = none) (Z_all : mg "all" = none) (Z_sorted : mg "sorted" = none)
    (C_are_worths : Cal P w K mg base 3 "are_worths" ["thing"] (spAreWorths K)) (C_is_value : Cal P w K mg base 2 "is_value" ["thing"] (spIsValue K)) : FnOk P w K mg base CX0 4 f fd ["self", "worths", "endless"] (spWishInit C) := by
  refine F.ok sc_Wish_init (fun vs H Q E h => ?_) (fun cdv A outer s H vs Q E hr h => ?_)
  · obtain ⟨_, _, _, _, _, rfl, _⟩ := h
    rfl
  · obtain ⟨a, d, dx, e, l, rfl, ha, hd, g, k⟩ := h
    have hu := hu_of hr
    refine ⟨_, (pss_cons (ps_if (PW.pt (pw_or (pt_not (pt_val (pe_cal C_are_worths (hr.mono (by decide)) (by rfl) (pa_cons (pv 1) pa_nil)))) (pw_or1 (pt_not (pt_val (pe_cal C_is_value (hr.mono (by decide)) (by rfl) (pa_cons (pv 2) pa_nil)))))))
      (pss_one ps_never)
      pss_nil)
      (pss_cons (ps_set (i := 3) sc_Wish_init.nd rfl (Or.inl rfl) (pe_callB (cr_all rfl) (by rfl) Z_all (by decide +kernel) (pa_cons (pe_lc (own := [("value", 5)]) (g := gName 5) (tt := tYes) (by rfl) sc_Wish_init.nd (pi_list (pe_listV (by rfl) (pv 1) (by rfl) Z_list)) (blkOk_by (own := [("value", 5)]) (N := N_Wish_init) (sc := defScope s_Wish_init) (by decide +kernel)) (fun _ _ _ _ _ => (pg_name (i := 5) sc_Wish_init.nd rfl (Or.inl rfl))) (fun _ _ _ _ _ => pts_nil) (fun _ _ _ _ _ => by exact (pe_cmpR op_le (pv 2) (pv 5) (nomark _)))) pa_nil)))
      (pss_cons (ps_set (i := 4) sc_Wish_init.nd rfl (Or.inl rfl) (pe_callB (cr_all rfl) (by rfl) Z_all (by decide +kernel) (pa_cons (pe_lc (own := [("value", 5)]) (g := gName 5) (tt := tYes) (by rfl) sc_Wish_init.nd (pi_list (pe_listV (by rfl) (pv 1) (by rfl) Z_list)) (blkOk_by (own := [("value", 5)]) (N := N_Wish_init) (sc := defScope s_Wish_init) (by decide +kernel)) (fun _ _ _ _ _ => (pg_name (i := 5) sc_Wish_init.nd rfl (Or.inl rfl))) (fun _ _ _ _ _ => pts_nil) (fun _ _ _ _ _ => by exact (pe_cmpR op_ge (pv 2) (pv 5) (nomark _)))) pa_nil)))
      (pss_cons (ps_if (PW.pt (pw_and (pt_not (pt_val (pv 3))) (pw_and1 (pt_not (pt_val (pv 4))))))
      (pss_one ps_never)
      pss_nil)
      (pss_cons (ps_fld (pv 0) (pe_dc (own := [("name", 6)]) (g := gName 6) (tt := tYes) (by rfl) sc_Wish_init.nd (pi_list (pe_callB (call_sortedDA rfl) (by rfl) Z_sorted (by decide +kernel) (pa_cons (pv 1) pa_nil))) (blkOk_by (own := [("name", 6)]) (N := N_Wish_init) (sc := defScope s_Wish_init) (by decide +kernel)) (fun _ _ _ _ _ => (pg_name (i := 6) sc_Wish_init.nd rfl (Or.inl rfl))) (fun _ _ _ _ _ => pts_nil) (fun _ _ _ _ _ => by exact (pv 6)) (fun _ _ _ _ _ => by exact (pe_dget hu (pv 1) (pv 6) (fun _ _ => rfl)))) rfl)
      (pss_cons (ps_fld (pv 0) (pv 2) rfl)
      (pss_one (ps_fld (pv 0) (pv 3) rfl)))))))), ?_⟩
    walk_at "go"
    refine .inl ⟨d, _, rfl, hd, kvFine_int g.nm, fun H1 s1 => ?_⟩
    rw [worthsB_good g]
    walk_at "go"
    refine ⟨_, _, rfl, .int e, ?_⟩
    have ev : valueV (.int e) = true := by
      show (decide _ && decide _) = true
      rw [decide_eq_true g.elo.1, decide_eq_true g.elo.2]
      rfl
    rw [ev]
    walk_at "go"
    have hll : l.length ≤ 1000 := by have := g.len; omega
    have hd1 := s1 d _ hd
    refine lc_vals (j := 2) (n := 5) (e := e) (g := fun i j => decide (i ≤ j)) (.inl hd1) hll (by decide) ?hn rfl fun H2 D s2 hD hD2 => ?_
    case hn => exact (by decide : 5 < 7)
    walk_at "go"
    refine ⟨D, _, rfl, SqL.of hD2, ?_⟩
    have eb : (List.map (fun q : Str × Int => decide (e ≤ q.2)) l).all id = comingB l e := by rw [List.all_map]; rfl
    rw [eb]
    walk_at "go"
    have hd2 := s2 d _ hd1
    refine lc_vals (j := 2) (n := 5) (e := e) (g := fun i j => decide (j ≤ i)) (.inl hd2) hll (by decide) ?hn rfl fun H3 D3 s3 hD3 hD33 => ?_
    case hn => exact (by decide : 5 < 7)
    walk_at "go"
    refine ⟨D3, _, rfl, SqL.of hD33, ?_⟩
    walk_at "go"
    have hd3 := s3 d _ hd2
    have s13 : L2.Same H H3 := (s1.trans s2).trans s3
    refine x_ite (fun h1 => ?_) (fun h1 => ?_)
    focus
      walk_at "go"
      refine x_ite (fun h2 => ?_) (fun h2 => ?_)
    focus
      exfalso
      rcases g.side with h | h
      · have : comingB l e = true := List.all_eq_true.mpr fun q hq => decide_eq_true (h q hq)
        rw [this] at h1
        cases h1
      · have : (List.map (fun q : Str × Int => decide (q.2 ≤ e)) l).all id = true := by
          rw [List.all_map]
          exact List.all_eq_true.mpr fun q hq => decide_eq_true (h q hq)
        rw [this] at h2
        cases h2
    all_goals walk_at "go"
    all_goals
      have ek : (strK V.int l).map (·.1) = (l.map (·.1)).map Sum.inr := by rw [List.map_map, List.map_map]; rfl
      refine ⟨d, _, l.map (·.1), rfl, .inl hd3, ek, by rw [List.length_map]; have := g.len; omega, fun ys q hperm hsort hq => runL (SqL.of upd_same) fun D4 hD4 => ?_⟩
      have hq4 : q ≠ D4 := ne_of_none upd_same hD4
      have hD40 : H3 D4 = none := by rw [upd_ne hq4.symm] at hD4; exact hD4
      have ynd : ys.Nodup := (hperm.nodup_iff).mpr g.nd
      have ylen : ys.length = l.length := by rw [hperm.length_eq, List.length_map]
      refine dcL (xs := ys.map V.str) (fun t H' => L2.Same H3 H' ∧ H' q = some (.lst (ys.map V.str)) ∧ H' D4 = some (.dK (strK V.int ((ys.take t).map fun z => (z, (l.lookup z).getD 0))))) ?_ ?_ ?_ ?_
      · exact ⟨same_upd (same_new hq) hD40, by rw [upd_ne hq4]; exact upd_same, upd_same⟩
      · exact fun t H' _ h => SqL.of h.2.1
      · rintro t x H' hx ⟨s4, hq1, hD41⟩
        rw [List.getElem?_map] at hx
        cases hz : ys[t]? with
        | none => rw [hz] at hx; cases hx
        | some z =>
          rw [hz] at hx
          have ex : V.str z = x := Option.some.inj hx
          subst ex
          have hlt : t < ys.length := (List.getElem?_eq_some_iff.mp hz).1
          have hzm : z ∈ l.map (·.1) := hperm.mem_iff.mp (List.mem_of_getElem? hz)
          obtain ⟨xz, hxz⟩ := lookup_isSome hzm
          walk_at "go"
          refine ⟨rfl, ?_⟩
          walk_at "go"
          refine x_getS (kvs := strK V.int l) (.inl (s4 d _ hd3)) (v := .int xz) (by rw [strK_look, hxz]; rfl) ?_
          refine ⟨_, Sum.inr z, rfl, hD41, sz_lt (by simp; omega), same_upd s4 hD40, by rw [upd_ne hq4]; exact hq1, ?_⟩
          rw [upd_same, strK_put, putL_new, take_succ_get hz, List.map_append]
          · simp [hxz]
          · rw [List.map_map]
            intro hm
            obtain ⟨z', hz', e'⟩ := List.mem_map.mp hm
            have e2 : z' = z := e'
            subst e2
            obtain ⟨i, hi, he⟩ := List.getElem_of_mem hz'
            have hi2 : i < t := by simp at hi; omega
            have h5 : ys[i]? = some z' := by
              rw [List.getElem_take] at he
              rw [List.getElem?_eq_getElem (by omega), he]
            have := L2.nd_ix ynd h5 hz
            omega
      · rintro H4 ⟨s4, hq1, hD41⟩
        rw [List.length_map, List.take_length] at hD41
        have s14 : L2.Same H H4 := s13.trans s4
        have aD : a ≠ D4 := fun z => by rw [z] at ha; rw [s13 _ _ ha] at hD40; cases hD40
        walk_at "go"
        refine x_sf K_Wish N1 (s14 _ _ ha) (by decide) ?_
        walk_at "go"
        refine x_sf K_Wish N2 upd_same (Nat.lt_of_le_of_lt (length_putF _ _ _) (by show 0 + 1 < 1000; decide)) ?_
        walk_at "go"
        refine x_sf K_Wish N3 upd_same (Nat.lt_of_le_of_lt (length_putF _ _ _) (Nat.lt_of_le_of_lt (Nat.succ_le_succ (length_putF _ _ _)) (by show 0 + 1 + 1 < 1000; decide))) ?_
        refine k _ (fun b o e n => ?_) ⟨⟨dx, D4, ys.map fun z => (z, (l.lookup z).getD 0), ?_, ?_, table_perm g.nd hperm 0, ?_⟩⟩
        · rw [upd_ne n, upd_ne n, upd_ne n]
          exact s14 b o e
        · rw [upd_same]
          rfl
        · rw [upd_ne aD.symm, upd_ne aD.symm, upd_ne aD.symm]
          exact hD41
        · rw [List.map_map]
          have : ((fun x : Str × Int => x.1) ∘ fun z => (z, (l.lookup z).getD 0)) = id := rfl
          rw [this, List.map_id]
          exact hsort
theorem ok_Wish_worths {f : Addr} {fd : FuncData} (F : Fun K "worths" "Wish.worths" s_Wish_worths f fd) (K_Wish : Cls K C) (N1 : NoAttr K C "table") : FnOk P w K mg base CX0 1 f fd ["self"] (spWorths C) := by
  refine F.ok sc_Wish_worths (fun vs H Q E h => ?_) (fun cdv A outer s H vs Q E hr h => ?_)
  · obtain ⟨_, _, _, rfl, _⟩ := h
    rfl
  · obtain ⟨a, e, l, rfl, hW, hnd, hlen, k⟩ := h
    obtain ⟨dx, t, l', ha, ht, hp, _⟩ := hW.ex
    have hu := hu_of hr
    have hnd' : (l'.map (·.1)).Nodup := (List.Perm.nodup_iff (hp.map _)).mpr hnd
    have hat : a ≠ t := ne_of ha ht (by intro z; cases z)
    refine ⟨_, (pss_one (ps_ret (pe_lock (pe_dc (own := [("name", 1)]) (g := gName 1) (tt := tYes) (by rfl) sc_Wish_worths.nd (pi_keys (pe_fld (pv 0) rfl)) (blkOk_by (own := [("name", 1)]) (N := N_Wish_worths) (sc := defScope s_Wish_worths) (by decide +kernel)) (fun _ _ _ _ _ => (pg_name (i := 1) sc_Wish_worths.nd rfl (Or.inl rfl))) (fun _ _ _ _ _ => pts_nil) (fun _ _ _ _ _ => by exact (pv 1)) (fun _ _ _ _ _ => by exact (pe_dget hu (pe_fldK (K := K) (pv 0) (by rfl)) (pv 1) (fun _ _ => rfl))))))), ?_⟩
    walk_at "go"
    refine x_lockE ht trivial fun od => ?_
    have ha1 : (upd H t (.frz od (.dK (strK V.int l')))) a = some (.ins C dx (wF t e (comingB l e))) := by rw [upd_ne hat]; exact ha
    walk_at "go"
    refine x_fld K_Wish N1 ha1 (wF_table _ _ _) ?_
    refine runK upd_same ?_
    intro D hD
    have hDt : D ≠ t := fun z => by rw [z, upd_same] at hD; cases hD
    have hD0 : H D = none := by rw [upd_ne hDt] at hD; exact hD
    refine dcK (kvs := strK V.int l') (fun i H' => L2.Same (upd H t (.frz od (.dK (strK V.int l')))) H' ∧ H' D = some (.dK (strK V.int (l'.take i)))) ?_ ?_ ?_ ?_
    · exact ⟨same_new hD, upd_same⟩
    · exact fun i H' _ h => h.1 t _ upd_same
    · rintro i k0 v0 H' hi ⟨s1, hD1⟩
      obtain ⟨z, x, rfl, rfl, hlx⟩ := strK_at hi
      have hlt : i < l'.length := (List.getElem?_eq_some_iff.mp hlx).1
      walk_at "go"
      refine ⟨rfl, ?_⟩
      walk_at "go"
      refine x_fld K_Wish N1 (s1 _ _ ha1) (wF_table _ _ _) ?_
      walk_at "go"
      refine x_getS (kvs := strK V.int l') (.inr ⟨od, s1 t _ upd_same⟩) (strK_val hnd' hlx) ?_
      refine ⟨_, Sum.inr z, rfl, hD1, sz_lt (by have := hp.length_eq; simp; omega), same_upd s1 hD, ?_⟩
      rw [upd_same, strK_put, putL_new, take_succ_get hlx]
      intro hm
      obtain ⟨p', hp', e'⟩ := List.mem_map.mp hm
      obtain ⟨j, hj, he⟩ := List.getElem_of_mem hp'
      have hj2 : j < i := by simp at hj; omega
      have h5 : (l'.map (·.1))[j]? = some z := by
        rw [List.getElem_take] at he
        rw [List.getElem?_map, List.getElem?_eq_getElem (by omega), he]
        exact congrArg some e'
      have h6 : (l'.map (·.1))[i]? = some z := by rw [List.getElem?_map, hlx]; rfl
      have := L2.nd_ix hnd' h5 h6
      omega
    · rintro H4 ⟨s1, hD1⟩
      have eL : (strK V.int l').length = l'.length := List.length_map ..
      rw [eL, List.take_length] at hD1
      refine ⟨s1 t _ upd_same, ?_⟩
      refine k _ D l' (fun b o e => ?_) hD0 (by rw [upd_ne hDt]; exact hD1) hp
      by_cases hbt : b = t
      · subst hbt
        rw [ht] at e
        rw [upd_same, e]
      · rw [upd_ne hbt]
        exact s1 b o (by rw [upd_ne hbt]; exact e)
end
/-! ### fractions -/
/-- while a test that looks at the slots alone -/
theorem lpWg {c : TT} {tb : TS} {σ : L2.St} {H : Hp} {n : L2.St → Hp → Prop} {r : VK} {b k : L2.St → Hp → Prop} (W : Nat → L2.St → Hp → Prop) {m : Nat} (h0 : W m σ H) (hs : ∀ m σ H, W m σ H → ∃ z, (∀ R : Bool → Hp → Prop, R z H → c σ H R) ∧
    if z = true then tb ⟨fun σ' H' => ∃ m', m' < m ∧ W m' σ' H', r, n, fun σ' H' => ∃ m', m' < m ∧ W m' σ' H'⟩ σ H else n σ H) : tWhile c tb ⟨n, r, b, k⟩ σ H := by
  refine ⟨W, ⟨m, h0⟩, fun m σ H h => ?_⟩
  obtain ⟨z, hz, q⟩ := hs m σ H h
  refine hz _ ?_
  cases z with
  | true => exact ⟨fun σ' H' => ∃ m', m' < m ∧ W m' σ' H', fun _ _ h => h, q⟩
  | false => exact q
def FrAt (H : Hp) (a : Addr) (x : Int × Int) : Prop := H a = some (.tup [.int x.1, .int x.2])
def frN (t b : Int) : Int × Int := (t / (Nat.gcd t.natAbs b.natAbs : Nat), b / (Nat.gcd t.natAbs b.natAbs : Nat))
def Sml (i : Int) : Prop := -(2 ^ 62) < i ∧ i < 2 ^ 62
def spGcd : Sp := fun vs H Q _ => ∃ (a b : Nat), vs = [.int a, .int b] ∧ (b : Int) < 2 ^ 62 ∧ Q (.int (Nat.gcd a b : Nat)) H
def spFrac : Sp := fun vs H Q _ => ∃ (t b : Int), vs = [.int t, .int b] ∧ Sml t ∧ 1 ≤ b ∧ Sml b ∧ ∀ H' p, L2.Same H H' → H p = none → FrAt H' p (frN t b) → Q (.ref p) H'
def spIsFrac : Sp := fun vs H Q _ => ∃ (a : Addr) (x : Int × Int), vs = [.ref a] ∧ FrAt H a x ∧ 1 ≤ x.2 ∧ Sml x.2 ∧ Nat.gcd x.1.natAbs x.2.natAbs = 1 ∧ Q (.bl true) H
def spWhole : Sp := fun vs H Q _ => ∃ (i : Int), vs = [.int i] ∧ ∀ H' p, L2.Same H H' → H p = none → FrAt H' p (i, 1) → Q (.ref p) H'
def spLess : Sp := fun vs H Q _ => ∃ (a b : Addr) (x y : Int × Int), vs = [.ref a, .ref b] ∧ FrAt H a x ∧ FrAt H b y ∧ Sml x.1 ∧ Sml y.1 ∧ Q (.bl (decide (x.1 * y.2 < y.1 * x.2))) H
theorem gcd_pos {t b : Int} (h : 1 ≤ b) : 1 ≤ (Nat.gcd t.natAbs b.natAbs : Int) := by
  have : 0 < Nat.gcd t.natAbs b.natAbs := Nat.gcd_pos_of_pos_right _ (by omega)
  omega
theorem gcd_le {t b : Int} (h : 1 ≤ b) : (Nat.gcd t.natAbs b.natAbs : Int) ≤ b := by
  have : Nat.gcd t.natAbs b.natAbs ≤ b.natAbs := Nat.gcd_le_right _ (by omega)
  omega
section
variable {P : Program} {w : World} {K : PySem.W.Frag} {mg : Str → Option Value} {base : Heap}
theorem ok_common_divisor {f : Addr} {fd : FuncData} (F : Fun K "common_divisor" "common_divisor" s_common_divisor f fd) : FnOk P w K mg base CX0 1 f fd ["one", "other"] spGcd := by
  refine F.ok sc_common_divisor (fun vs H Q E h => ?_) (fun cdv A outer s H vs Q E hr h => ?_)
  · obtain ⟨_, _, rfl, _⟩ := h
    rfl
  · obtain ⟨a, b, rfl, hb, q⟩ := h
    refine ⟨_, (pss_cons (ps_while PassesOwn.never (pt_cmpR op_gt (pv 1) pe_int (nomark _))
      (pss_one (ps_par (i := 0) (j := 1) (by rfl) sc_common_divisor.nd rfl rfl (by decide) rfl rfl (pa_cons (pv 1) (pa_cons (pe_op op_mod (pv 0) (pv 1)) pa_nil)) (by rfl))))
      (pss_one (ps_ret (pv 0)))), ?_⟩
    walk_at "go"
    refine lpWg (fun m σ H' => ∃ x y : Nat, σ = [some (.int x), some (.int y)] ∧ H' = H ∧ y ≤ b ∧ y ≤ m ∧ Nat.gcd x y = Nat.gcd a b) (m := b) ⟨a, b, rfl, rfl, Nat.le_refl _, Nat.le_refl _, rfl⟩ ?_
    rintro m σ H' ⟨x, y, rfl, rfl, hy, hym, hg⟩
    refine ⟨decide (0 < y), fun R hR => ?_, ?_⟩
    · walk_at "go"
      have e : decide ((0 : Int) < (y : Int)) = decide (0 < y) := decide_eq_decide.mpr (by omega)
      rw [e]
      exact hR
    · refine x_dec (fun h0 => ?_) (fun h0 => ?_)
      · walk_at "go"
        refine ⟨x % y, Nat.lt_of_lt_of_le (Nat.mod_lt _ h0) hym, y, x % y, rfl, rfl, Nat.le_trans (Nat.le_of_lt (Nat.mod_lt _ h0)) hy, Nat.le_refl _, ?_⟩
        rw [← hg, Nat.gcd_comm x y, Nat.gcd_rec y x, Nat.gcd_comm]
      · walk_at "go"
        have e : y = 0 := by omega
        subst e
        rw [Nat.gcd_zero_right] at hg
        rw [hg]
        exact q
theorem ok_fraction {f : Addr} {fd : FuncData} (F : Fun K "fraction" "fraction" s_fraction f fd) (Z_abs : mg "abs" = none) (C_common_divisor : Cal P w K mg base 1 "common_divisor" ["one", "other"] spGcd) : FnOk P w K mg base CX0 2 f fd ["top", "bottom"] spFrac := by
  refine F.ok sc_fraction (fun vs H Q E h => ?_) (fun cdv A outer s H vs Q E hr h => ?_)
  · obtain ⟨_, _, rfl, _⟩ := h
    rfl
  · obtain ⟨t, b, rfl, ht, hb, hb2, q⟩ := h
    unfold Sml at ht hb2
    refine ⟨_, (pss_cons (ps_if (pt_cmpR op_lt (pv 1) pe_int (nomark _))
      (pss_one (ps_par (i := 0) (j := 1) (by rfl) sc_fraction.nd rfl rfl (by decide) rfl rfl (pa_cons (pe_un un_neg (pv 0)) (pa_cons (pe_un un_neg (pv 1)) pa_nil)) (by rfl)))
      pss_nil)
      (pss_cons (ps_set (i := 2) sc_fraction.nd rfl (Or.inl rfl) (pe_cal C_common_divisor (hr.mono (by decide)) (by rfl) (pa_cons (pe_callB call_absA (by rfl) Z_abs (by decide +kernel) (pa_cons (pv 0) pa_nil)) (pa_cons (pv 1) pa_nil))))
      (pss_one (ps_ret (pe_tup (pa_cons (pe_op op_fdivA (pv 0) (pv 2)) (pa_cons (pe_op op_fdivA (pv 1) (pv 2)) pa_nil))))))), ?_⟩
    walk_at "go"
    refine x_no (by omega) ?_
    walk_at "go"
    have ea : (if t < 0 then -t else t) = (t.natAbs : Int) := by split <;> omega
    have eb : b = (b.natAbs : Int) := by omega
    refine ⟨t.natAbs, b.natAbs, by rw [ea, ← eb], by omega, ?_⟩
    have g1 := gcd_pos (t := t) hb
    have g2 := gcd_le (t := t) hb
    walk_at "go"
    refine ⟨sz_le (by simp), fun p hp => ?_⟩
    exact q _ p (same_new hp) hp upd_same
theorem ok_is_fraction {f : Addr} {fd : FuncData} (F : Fun K "is_fraction" "is_fraction" s_is_fraction f fd) (Z_abs : mg "abs" = none) (C_common_divisor : Cal P w K mg base 1 "common_divisor" ["one", "other"] spGcd)
    (C_is_pair : Cal P w K mg base 1 "is_pair" ["thing"] (spIsPair K)) (C_is_integer : Cal P w K mg base 1 "is_integer" ["thing"] (spIsInt K)) : FnOk P w K mg base CX0 2 f fd ["thing"] spIsFrac := by
  refine F.ok sc_is_fraction (fun vs H Q E h => ?_) (fun cdv A outer s H vs Q E hr h => ?_)
  · obtain ⟨_, _, rfl, _⟩ := h
    rfl
  · obtain ⟨a, x, rfl, ha, h1, h2, hg, q⟩ := h
    unfold Sml at h2
    have ha1 : H a = some (.tup [.int x.1, .int x.2]) := ha
    refine ⟨_, (pss_cons (ps_if (PW.pt (pw_or (pt_not (pt_val (pe_cal C_is_pair (hr.mono (by decide)) (by rfl) (pa_cons (pv 0) pa_nil)))) (pw_or (pt_not (pt_val (pe_cal C_is_integer (hr.mono (by decide)) (by rfl) (pa_cons (pe_ix ix_tup (pv 0) pe_int (fun _ _ => rfl)) pa_nil)))) (pw_or1 (pt_not (pt_val (pe_cal C_is_integer (hr.mono (by decide)) (by rfl) (pa_cons (pe_ix ix_tup (pv 0) pe_int (fun _ _ => rfl)) pa_nil))))))))
      (pss_one (ps_ret pe_bl))
      pss_nil)
      (pss_one (ps_ret (pe_and (pe_cmpR op_ge (pe_ix ix_tup (pv 0) pe_int (fun _ _ => rfl)) pe_int (nomark _)) (pe_one (pe_cmpR op_eq (pe_cal C_common_divisor (hr.mono (by decide)) (by rfl) (pa_cons (pe_callB call_absA (by rfl) Z_abs (by decide +kernel) (pa_cons (pe_ix ix_tup (pv 0) pe_int (fun _ _ => rfl)) pa_nil)) (pa_cons (pe_ix ix_tup (pv 0) pe_int (fun _ _ => rfl)) pa_nil))) pe_int (nomark _))))))), ?_⟩
    walk_at "go"
    refine ⟨a, _, rfl, SqT.of ha1, ?_⟩
    walk_at "go"
    refine x_nyes rfl ?_
    walk_at "go"
    refine x_ixt 0 (SqT.of ha1) rfl rfl ?_
    walk_at "go"
    refine ⟨_, _, rfl, .int _, ?_⟩
    walk_at "go"
    refine x_nT ?_
    walk_at "go"
    refine x_ixt 1 (SqT.of ha1) rfl rfl ?_
    walk_at "go"
    refine ⟨_, _, rfl, .int _, ?_⟩
    walk_at "go"
    refine x_nT ?_
    walk_at "go"
    refine x_ixt 1 (SqT.of ha1) rfl rfl ?_
    walk_at "go"
    refine x_yes (by omega) ?_
    walk_at "go"
    refine x_ixt 0 (SqT.of ha1) rfl rfl ?_
    walk_at "go"
    refine x_ixt 1 (SqT.of ha1) rfl rfl ?_
    walk_at "go"
    have ea : (if x.1 < 0 then -x.1 else x.1) = (x.1.natAbs : Int) := by split <;> omega
    have eb : x.2 = (x.2.natAbs : Int) := by omega
    refine ⟨x.1.natAbs, x.2.natAbs, by rw [ea, ← eb], by omega, ?_⟩
    walk_at "go"
    rw [hg]
    exact q
theorem ok_whole {f : Addr} {fd : FuncData} (F : Fun K "whole" "whole" s_whole f fd) : FnOk P w K mg base CX0 1 f fd ["number"] spWhole := by
  refine F.ok sc_whole (fun vs H Q E h => ?_) (fun cdv A outer s H vs Q E hr h => ?_)
  · obtain ⟨_, rfl, _⟩ := h
    rfl
  · obtain ⟨i, rfl, q⟩ := h
    refine ⟨_, (pss_one (ps_ret (pe_tup (pa_cons (pv 0) (pa_cons pe_int pa_nil))))), ?_⟩
    walk_at "go"
    refine ⟨sz_le (by simp), fun p hp => ?_⟩
    exact q _ p (same_new hp) hp upd_same
theorem ok_less {f : Addr} {fd : FuncData} (F : Fun K "less" "less" s_less f fd) : FnOk P w K mg base CX0 1 f fd ["one", "other"] spLess := by
  refine F.ok sc_less (fun vs H Q E h => ?_) (fun cdv A outer s H vs Q E hr h => ?_)
  · obtain ⟨_, _, _, _, rfl, _⟩ := h
    rfl
  · obtain ⟨a, b, x, y, rfl, ha, hb, h1, h2, q⟩ := h
    unfold Sml at h1 h2
    have ha1 : H a = some (.tup [.int x.1, .int x.2]) := ha
    have hb1 : H b = some (.tup [.int y.1, .int y.2]) := hb
    refine ⟨_, (pss_one (ps_ret (pe_cmpR op_lt (pe_op op_mulA (pe_ix ix_tup (pv 0) pe_int (fun _ _ => rfl)) (pe_ix ix_tup (pv 1) pe_int (fun _ _ => rfl))) (pe_op op_mulA (pe_ix ix_tup (pv 1) pe_int (fun _ _ => rfl)) (pe_ix ix_tup (pv 0) pe_int (fun _ _ => rfl))) (nomark _)))), ?_⟩
    walk_at "go"
    refine x_ixt 0 (SqT.of ha1) rfl rfl ?_
    walk_at "go"
    refine x_ixt 1 (SqT.of hb1) rfl rfl ?_
    walk_at "go"
    refine x_ixt 0 (SqT.of hb1) rfl rfl ?_
    walk_at "go"
    refine x_ixt 1 (SqT.of ha1) rfl rfl ?_
    walk_at "go"
    exact q
end
/-! ### plus, the mean by weights of two -/
theorem frN_eq {t b : Int} (h : 1 ≤ b) : (frN t b).1 * b = t * (frN t b).2 ∧ 1 ≤ (frN t b).2 ∧ (frN t b).2 ≤ b ∧ (frN t b).1.natAbs ≤ t.natAbs := by
  have g1 := gcd_pos (t := t) h
  have d1 : ((Nat.gcd t.natAbs b.natAbs : Nat) : Int) ∣ t := Int.ofNat_dvd_left.mpr (Nat.gcd_dvd_left _ _)
  have d2 : ((Nat.gcd t.natAbs b.natAbs : Nat) : Int) ∣ b := Int.ofNat_dvd_left.mpr (Nat.gcd_dvd_right _ _)
  unfold frN
  generalize ((Nat.gcd t.natAbs b.natAbs : Nat) : Int) = g at g1 d1 d2
  obtain ⟨u, rfl⟩ := d1
  obtain ⟨v, rfl⟩ := d2
  have e1 : g * u / g = u := Int.mul_ediv_cancel_left u (by omega)
  have e2 : g * v / g = v := Int.mul_ediv_cancel_left v (by omega)
  show (g * u / g) * (g * v) = (g * u) * (g * v / g) ∧ 1 ≤ g * v / g ∧ g * v / g ≤ g * v ∧ (g * u / g).natAbs ≤ (g * u).natAbs
  rw [e1, e2]
  have hv : 1 ≤ v := by
    rcases Int.lt_or_le 0 v with h0 | h0
    · omega
    · have := Int.mul_nonpos_of_nonneg_of_nonpos (show 0 ≤ g by omega) h0
      omega
  refine ⟨by rw [← Int.mul_assoc, Int.mul_comm u g], hv, ?_, ?_⟩
  · have := Int.mul_le_mul_of_nonneg_right g1 (show 0 ≤ v by omega)
    omega
  · rw [Int.natAbs_mul]
    exact Nat.le_mul_of_pos_left _ (by omega)
def plusF (x y : Int × Int) : Int × Int := if x.2 = 1 ∧ y.2 = 1 then (x.1 + y.1, 1) else frN (x.1 * y.2 + y.1 * x.2) (x.2 * y.2)
/-- of a million at most -/
def Mil (x : Int × Int) : Prop := -1000000 ≤ x.1 ∧ x.1 ≤ 1000000 ∧ 1 ≤ x.2 ∧ x.2 ≤ 1000000
theorem mil_mul {a b : Int} (h1 : -1000000 ≤ a ∧ a ≤ 1000000) (h2 : 1 ≤ b ∧ b ≤ 1000000) : -1000000000000 ≤ a * b ∧ a * b ≤ 1000000000000 := by
  have k1 : a * b ≤ 1000000 * b := Int.mul_le_mul_of_nonneg_right h1.2 (by omega)
  have k2 : -1000000 * b ≤ a * b := Int.mul_le_mul_of_nonneg_right h1.1 (by omega)
  omega
theorem mil_pos {a b : Int} (h1 : 1 ≤ a ∧ a ≤ 1000000) (h2 : 1 ≤ b ∧ b ≤ 1000000) : 1 ≤ a * b ∧ a * b ≤ 1000000000000 := by
  have k1 : a * b ≤ 1000000 * b := Int.mul_le_mul_of_nonneg_right h1.2 (by omega)
  have k2 : 1 * b ≤ a * b := Int.mul_le_mul_of_nonneg_right h1.1 (by omega)
  omega
def spPlus : Sp := fun vs H Q _ => ∃ (a b : Addr) (x y : Int × Int), vs = [.ref a, .ref b] ∧ FrAt H a x ∧ FrAt H b y ∧ Mil x ∧ Mil y ∧ ∀ H' p, L2.Same H H' → H p = none → FrAt H' p (plusF x y) → Q (.ref p) H'
theorem plusF_eq {x y : Int × Int} (hx : 1 ≤ x.2) (hy : 1 ≤ y.2) : (plusF x y).1 * (x.2 * y.2) = (x.1 * y.2 + y.1 * x.2) * (plusF x y).2 ∧ 1 ≤ (plusF x y).2 := by
  have hxy : 1 ≤ x.2 * y.2 := by
    have := Int.mul_le_mul_of_nonneg_right hx (show 0 ≤ y.2 by omega)
    omega
  unfold plusF
  by_cases h : x.2 = 1 ∧ y.2 = 1
  · rw [if_pos h, h.1, h.2]
    exact ⟨by simp, Int.le_refl 1⟩
  · rw [if_neg h]
    have := frN_eq (t := x.1 * y.2 + y.1 * x.2) hxy
    exact ⟨this.1, this.2.1⟩
section
variable {P : Program} {w : World} {K : PySem.W.Frag} {mg : Str → Option Value} {base : Heap}
theorem ok_plus {f : Addr} {fd : FuncData} (F : Fun K "plus" "plus" s_plus f fd) (C_fraction : Cal P w K mg base 2 "fraction" ["top", "bottom"] spFrac) : FnOk P w K mg base CX0 3 f fd ["one", "other"] spPlus := by
  refine F.ok sc_plus (fun vs H Q E h => ?_) (fun cdv A outer s H vs Q E hr h => ?_)
  · obtain ⟨_, _, _, _, rfl, _⟩ := h
    rfl
  · obtain ⟨a, b, x, y, rfl, ha, hb, hx, hy, q⟩ := h
    obtain ⟨x1, x2, x3, x4⟩ := hx
    obtain ⟨y1, y2, y3, y4⟩ := hy
    have ha1 : H a = some (.tup [.int x.1, .int x.2]) := ha
    have hb1 : H b = some (.tup [.int y.1, .int y.2]) := hb
    have m1 := mil_mul ⟨x1, x2⟩ ⟨y3, y4⟩
    have m2 := mil_mul ⟨y1, y2⟩ ⟨x3, x4⟩
    have m3 := mil_pos ⟨x3, x4⟩ ⟨y3, y4⟩
    have frac : ∀ (Z : V → Hp → Prop), (¬ (x.2 = 1 ∧ y.2 = 1)) → (∀ H' p, L2.Same H H' → H p = none → FrAt H' p (plusF x y) → Z (.ref p) H') → spFrac [.int (x.1 * y.2 + y.1 * x.2), .int (x.2 * y.2)] H Z E0 := fun Z hne hZ => by
      refine ⟨_, _, rfl, ⟨by omega, by omega⟩, m3.1, ⟨by omega, by omega⟩, fun H' p s1 hp hf => hZ H' p s1 hp ?_⟩
      unfold plusF
      rw [if_neg hne]
      exact hf
    refine ⟨_, (pss_cons (ps_if (PW.pt (pw_and (pt_cmpR op_eq (pe_ix ix_tup (pv 0) pe_int (fun _ _ => rfl)) pe_int (nomark _)) (pw_and1 (pt_cmpR op_eq (pe_ix ix_tup (pv 1) pe_int (fun _ _ => rfl)) pe_int (nomark _)))))
      (pss_one (ps_ret (pe_tup (pa_cons (pe_op op_add (pe_ix ix_tup (pv 0) pe_int (fun _ _ => rfl)) (pe_ix ix_tup (pv 1) pe_int (fun _ _ => rfl))) (pa_cons pe_int pa_nil)))))
      pss_nil)
      (pss_one (ps_ret (pe_cal C_fraction (hr.mono (by decide)) (by rfl) (pa_cons (pe_op op_add (pe_op op_mulA (pe_ix ix_tup (pv 0) pe_int (fun _ _ => rfl)) (pe_ix ix_tup (pv 1) pe_int (fun _ _ => rfl))) (pe_op op_mulA (pe_ix ix_tup (pv 1) pe_int (fun _ _ => rfl)) (pe_ix ix_tup (pv 0) pe_int (fun _ _ => rfl)))) (pa_cons (pe_op op_mulA (pe_ix ix_tup (pv 0) pe_int (fun _ _ => rfl)) (pe_ix ix_tup (pv 1) pe_int (fun _ _ => rfl))) pa_nil)))))), ?_⟩
    walk_at "go"
    refine x_ixt 1 (SqT.of ha1) rfl rfl ?_
    walk_at "go"
    refine x_dec (fun h1 => ?_) (fun h1 => ?_)
    · walk_at "go"
      refine x_ixt 1 (SqT.of hb1) rfl rfl ?_
      walk_at "go"
      refine x_dec (fun h2 => ?_) (fun h2 => ?_)
      · walk_at "go"
        refine x_ixt 0 (SqT.of ha1) rfl rfl ?_
        walk_at "go"
        refine x_ixt 0 (SqT.of hb1) rfl rfl ?_
        walk_at "go"
        refine ⟨sz_le (by simp), fun p hp => ?_⟩
        refine q _ p (same_new hp) hp ?_
        unfold plusF
        rw [if_pos ⟨h1, h2⟩]
        exact upd_same
      · walk_at "go"
        refine x_ixt 0 (SqT.of ha1) rfl rfl ?_
        walk_at "go"
        refine x_ixt 1 (SqT.of hb1) rfl rfl ?_
        walk_at "go"
        refine x_ixt 0 (SqT.of hb1) rfl rfl ?_
        walk_at "go"
        refine x_ixt 1 (SqT.of ha1) rfl rfl ?_
        walk_at "go"
        refine x_ixt 1 (SqT.of ha1) rfl rfl ?_
        walk_at "go"
        refine x_ixt 1 (SqT.of hb1) rfl rfl ?_
        walk_at "go"
        exact frac _ (fun z => h2 z.2) q
    · walk_at "go"
      refine x_ixt 0 (SqT.of ha1) rfl rfl ?_
      walk_at "go"
      refine x_ixt 1 (SqT.of hb1) rfl rfl ?_
      walk_at "go"
      refine x_ixt 0 (SqT.of hb1) rfl rfl ?_
      walk_at "go"
      refine x_ixt 1 (SqT.of ha1) rfl rfl ?_
      walk_at "go"
      refine x_ixt 1 (SqT.of ha1) rfl rfl ?_
      walk_at "go"
      refine x_ixt 1 (SqT.of hb1) rfl rfl ?_
      walk_at "go"
      exact frac _ (fun z => h1 z.1) q
theorem mulB {a b A B : Int} (h1 : -A ≤ a ∧ a ≤ A) (h2 : 0 ≤ b ∧ b ≤ B) (hA : 0 ≤ A) : -(A * B) ≤ a * b ∧ a * b ≤ A * B := by
  have k1 : a * b ≤ A * b := Int.mul_le_mul_of_nonneg_right h1.2 h2.1
  have k2 : -A * b ≤ a * b := Int.mul_le_mul_of_nonneg_right h1.1 h2.1
  have k3 : A * b ≤ A * B := Int.mul_le_mul_of_nonneg_left h2.2 hA
  have k4 : -A * b = -(A * b) := Int.neg_mul ..
  omega
theorem plusF_le {x y : Int × Int} {A B : Int} (hx : 1 ≤ x.2) (hy : 1 ≤ y.2) (h1 : -A ≤ x.1 * y.2 + y.1 * x.2 ∧ x.1 * y.2 + y.1 * x.2 ≤ A) (h2 : x.2 * y.2 ≤ B) (hB : 1 ≤ B) : (-A ≤ (plusF x y).1 ∧ (plusF x y).1 ≤ A) ∧ (plusF x y).2 ≤ B := by
  have hxy : 1 ≤ x.2 * y.2 := by
    have := Int.mul_le_mul_of_nonneg_right hx (show 0 ≤ y.2 by omega)
    omega
  unfold plusF
  by_cases h : x.2 = 1 ∧ y.2 = 1
  · rw [if_pos h]
    rw [h.1, h.2] at h1
    refine ⟨?_, hB⟩
    show -A ≤ x.1 + y.1 ∧ x.1 + y.1 ≤ A
    omega
  · rw [if_neg h]
    obtain ⟨_, _, h3, h4⟩ := frN_eq (t := x.1 * y.2 + y.1 * x.2) hxy
    generalize frN (x.1 * y.2 + y.1 * x.2) (x.2 * y.2) = z at h3 h4
    exact ⟨by omega, by omega⟩
def spMean : Sp := fun vs H Q _ => ∃ (r a1 a2 e1 e2 : Addr) (x : Int × Int) (w1 w2 : Int), vs = [.ref r] ∧ H r = some (.lst [.ref a1, .ref a2]) ∧ H a1 = some (.tup [.ref e1, .int w1]) ∧ H a2 = some (.tup [.ref e2, .int w2]) ∧ FrAt H e1 x ∧ FrAt H e2 x ∧
  -1000 ≤ x.1 ∧ x.1 ≤ 1000 ∧ 1 ≤ x.2 ∧ x.2 ≤ 4 ∧ 1 ≤ w1 ∧ w1 ≤ 10 ∧ 1 ≤ w2 ∧ w2 ≤ 10 ∧ ∀ H' p z, L2.Same H H' → H p = none → FrAt H' p z → 1 ≤ z.2 → z.1 * x.2 = x.1 * z.2 → -1000000 ≤ z.1 → z.1 ≤ 1000000 → z.2 ≤ 1000000 → Q (.ref p) H'
theorem ok_weighted_mean {f : Addr} {fd : FuncData} (F : Fun K "weighted_mean" "weighted_mean" s_weighted_mean f fd) (C_plus : Cal P w K mg base 3 "plus" ["one", "other"] spPlus) (C_fraction : Cal P w K mg base 2 "fraction" ["top", "bottom"] spFrac) : FnOk P w K mg base CX0 4 f fd ["rows"] spMean := by
  refine F.ok sc_weighted_mean (fun vs H Q E h => ?_) (fun cdv A outer s H vs Q E hr h => ?_)
  · obtain ⟨_, _, _, _, _, _, _, _, rfl, _⟩ := h
    rfl
  · obtain ⟨r, a1, a2, e1, e2, x, w1, w2, rfl, hr2, ha1, ha2, he1, he2, x1, x2, x3, x4, u1, u2, u3, u4, q⟩ := h
    refine ⟨_, (pss_cons (ps_set (i := 1) sc_weighted_mean.nd rfl (Or.inl rfl) (pe_tup (pa_cons pe_int (pa_cons pe_int pa_nil))))
      (pss_cons (ps_set (i := 2) sc_weighted_mean.nd rfl (Or.inl rfl) pe_int)
      (pss_cons (ps_for PassesOwn.never rfl (pi_list (pv 0)) (pg_tup rfl (pgs_cons (pg_name (i := 3) sc_weighted_mean.nd rfl (Or.inl rfl)) (pgs_cons (pg_name (i := 4) sc_weighted_mean.nd rfl (Or.inl rfl)) pgs_nil)))
      (pss_cons (ps_set (i := 1) sc_weighted_mean.nd rfl (Or.inl rfl) (pe_cal C_plus (hr.mono (by decide)) (by rfl) (pa_cons (pv 1) (pa_cons (pe_tup (pa_cons (pe_op op_mulA (pe_ix ix_tup (pv 3) pe_int (fun _ _ => rfl)) (pv 4)) (pa_cons (pe_ix ix_tup (pv 3) pe_int (fun _ _ => rfl)) pa_nil))) pa_nil))))
      (pss_one (ps_aug (i := 2) sc_weighted_mean.nd rfl (Or.inl rfl) (pv 4) ip_add))))
      (pss_one (ps_ret (pe_cal C_fraction (hr.mono (by decide)) (by rfl) (pa_cons (pe_ix ix_tup (pv 1) pe_int (fun _ _ => rfl)) (pa_cons (pe_op op_mulA (pe_ix ix_tup (pv 1) pe_int (fun _ _ => rfl)) (pv 2)) pa_nil)))))))), ?_⟩
    walk_at "go"
    refine ⟨sz_le (by simp), fun t0 ht0 => ?_⟩
    walk_at "go"
    -- one row
    have row : ∀ (y : Int × Int) (wt W : Int) (ta e : Addr) (H1 : Hp) (N : L2.St → Hp → Prop) (rr : VK) (b c : L2.St → Hp → Prop) (A B : Int), L2.Same H H1 → FrAt H1 ta y → FrAt H e x → 1 ≤ y.2 → y.2 ≤ B → 1 ≤ B → B ≤ 4 → -A ≤ y.1 ∧ y.1 ≤ A → 0 ≤ A → A ≤ 10000 → 1 ≤ wt → wt ≤ 10 → y.1 * x.2 = x.1 * W * y.2 →
        (∀ H' p z, L2.Same H H' → H p = none → FrAt H' p z → 1 ≤ z.2 → z.2 ≤ 4 * B → -(4 * A + 10000 * B) ≤ z.1 ∧ z.1 ≤ 4 * A + 10000 * B → z.1 * x.2 = x.1 * (W + wt) * z.2 → N [some (.ref r), some (.ref p), some (.int (W + wt)), some (.ref e), some (.int wt)] H') →
        tSeq (tAsg (tCall spPlus [] E0 (tCons (tVar 1) (tCons (tTup (tCons (tOp (rI IntMulOk fun i j => .int (i * j)) (tOp (rIxT K) (tVar 3) (tC (.int 0))) (tVar 4)) (tCons (tOp (rIxT K) (tVar 3) (tC (.int 1))) tNil))) tNil))) (gName 1)) (tAug 2 (tVar 4) (ipI fun i j => i + j)) ⟨N, rr, b, c⟩
          [some (.ref r), some (.ref ta), some (.int W), some (.ref e), some (.int wt)] H1 := by
      intro y wt W ta e H1 N rr b c A B s1 hy he y1 y2 b1 b4 yA a0 a1 w1 w2 heq hN
      have heA : H1 e = some (.tup [.int x.1, .int x.2]) := s1 _ _ he
      have xw := mulB (a := x.1) (b := wt) (A := 1000) (B := 10) ⟨x1, x2⟩ ⟨by omega, w2⟩ (by decide)
      walk_at "go"
      refine x_ixt 0 (SqT.of heA) rfl rfl ?_
      walk_at "go"
      refine x_ixt 1 (SqT.of heA) rfl rfl ?_
      walk_at "go"
      refine ⟨sz_le (by simp), fun p hp => ?_⟩
      have hy2 : FrAt (upd H1 p (.tup [.int (x.1 * wt), .int x.2])) ta y := by
        show upd H1 p _ ta = _
        rw [upd_ne (ne_of_none (show H1 ta = some _ from hy) hp)]
        exact hy
      have s2 := s1.trans (same_new (o := .tup [.int (x.1 * wt), .int x.2]) hp)
      walk_at "go"
      refine ⟨ta, p, y, (x.1 * wt, x.2), rfl, hy2, (show upd H1 p _ p = _ from upd_same), ⟨by omega, by omega, y1, by omega⟩, ⟨by show -1000000 ≤ x.1 * wt; omega, by show x.1 * wt ≤ 1000000; omega, x3, by show x.2 ≤ 1000000; omega⟩, fun H2 p2 s3 hp2 hf2 => ?_⟩
      have k1 := mulB (a := y.1) (b := x.2) (A := A) (B := 4) yA ⟨by omega, x4⟩ a0
      have k2 := mulB (a := x.1 * wt) (b := y.2) (A := 10000) (B := B) ⟨by omega, by omega⟩ ⟨by omega, y2⟩ (by decide)
      have k3 := mulB (a := y.2) (b := x.2) (A := B) (B := 4) ⟨by omega, y2⟩ ⟨by omega, x4⟩ (by omega)
      obtain ⟨h3, h4⟩ := plusF_le (x := y) (y := (x.1 * wt, x.2)) (A := 4 * A + 10000 * B) (B := 4 * B) y1 x3 ⟨by show _ ≤ y.1 * x.2 + x.1 * wt * y.2; omega, by show y.1 * x.2 + x.1 * wt * y.2 ≤ _; omega⟩ (by show y.2 * x.2 ≤ _; omega) (by omega)
      obtain ⟨h5, h6⟩ := plusF_eq (x := y) (y := (x.1 * wt, x.2)) y1 x3
      generalize plusF y (x.1 * wt, x.2) = z at h3 h4 h5 h6 hf2
      walk_at "go"
      refine hN H2 p2 z (s2.trans s3) (s2.free hp2) hf2 h6 h4 h3 ?_
      have h7 : z.1 * (y.2 * x.2) = (y.1 * x.2 + x.1 * wt * y.2) * z.2 := h5
      rw [heq] at h7
      have h8 : (z.1 * x.2) * y.2 = (x.1 * (W + wt) * z.2) * y.2 := by
        have e1 : (z.1 * x.2) * y.2 = z.1 * (y.2 * x.2) := by rw [Int.mul_assoc, Int.mul_comm x.2 y.2]
        have e2 : (x.1 * (W + wt) * z.2) * y.2 = (x.1 * W * y.2 + x.1 * wt * y.2) * z.2 := by
          rw [Int.mul_add, Int.add_mul, Int.add_mul, Int.add_mul, Int.mul_assoc (x.1 * W) z.2 y.2, Int.mul_comm z.2 y.2, Int.mul_assoc (x.1 * wt) z.2 y.2, Int.mul_comm z.2 y.2, ← Int.mul_assoc, ← Int.mul_assoc]
        rw [e1, e2]
        exact h7
      exact Int.eq_of_mul_eq_mul_right (by omega) h8
    refine lpL (xs := [.ref a1, .ref a2]) (fun i σ H' => ∃ (y : Int × Int) (W : Int) (ta : Addr) (v3 v4 : Option V), σ = [some (.ref r), some (.ref ta), some (.int W), v3, v4] ∧ L2.Same H H' ∧ FrAt H' ta y ∧ 1 ≤ y.2 ∧ y.1 * x.2 = x.1 * W * y.2 ∧
      (i = 0 → y = (0, 1) ∧ W = 0) ∧ (i = 1 → y.2 ≤ 4 ∧ -10000 ≤ y.1 ∧ y.1 ≤ 10000 ∧ W = w1) ∧ (i = 2 → y.2 ≤ 16 ∧ -80000 ≤ y.1 ∧ y.1 ≤ 80000 ∧ W = w1 + w2)) (SqL.of (by rw [upd_ne (ne_of_none hr2 ht0)]; exact hr2)) ?_ ?_ ?_ ?_
    · exact ⟨(0, 1), 0, t0, _, _, rfl, same_new ht0, (show upd H t0 _ t0 = _ from upd_same), by decide, by simp, fun _ => ⟨rfl, rfl⟩, fun e => absurd e (by decide), fun e => absurd e (by decide)⟩
    · exact fun i σ H' _ ⟨_, _, _, _, _, _, s1, _⟩ => SqL.of (s1 _ _ hr2)
    · rintro i v σ H1 hv ⟨y, W, ta, v3, v4, rfl, s1, hy, y1, heq, c0, c1, c2⟩
      cases i with
      | zero =>
        obtain ⟨rfl, rfl⟩ := c0 rfl
        cases hv
        refine x_g2 (SqT.of (s1 _ _ ha1)) ?_
        refine row (0, 1) w1 0 ta e1 H1 _ _ _ _ 0 1 s1 hy he1 y1 (by decide) (by decide) (by decide) (by decide) (by decide) (by decide) u1 u2 heq fun H' p z s2 hp hz z1 z2 zA ze => ?_
        exact ⟨z, _, p, _, _, rfl, s2, hz, z1, ze, fun e => absurd e (by decide), fun _ => ⟨by omega, by omega, by omega, by omega⟩, fun e => absurd e (by decide)⟩
      | succ i =>
        cases i with
        | zero =>
          obtain ⟨b1, b2, b3, rfl⟩ := c1 rfl
          cases hv
          refine x_g2 (SqT.of (s1 _ _ ha2)) ?_
          refine row y w2 W ta e2 H1 _ _ _ _ 10000 4 s1 hy he2 y1 b1 (by decide) (by decide) ⟨b2, b3⟩ (by decide) (by decide) u3 u4 heq fun H' p z s2 hp hz z1 z2 zA ze => ?_
          exact ⟨z, _, p, _, _, rfl, s2, hz, z1, ze, fun e => absurd e (by decide), fun e => absurd e (by decide), fun _ => ⟨by omega, by omega, by omega, rfl⟩⟩
        | succ i => cases hv
    · rintro σ H1 ⟨y, W, ta, v3, v4, rfl, s1, hy, y1, heq, c0, c1, c2⟩
      obtain ⟨b1, b2, b3, rfl⟩ := c2 rfl
      have hy1 : H1 ta = some (.tup [.int y.1, .int y.2]) := hy
      have yw := mulB (a := y.2) (b := w1 + w2) (A := 16) (B := 20) ⟨by omega, b1⟩ ⟨by omega, by omega⟩ (by decide)
      have yw1 : 1 ≤ y.2 * (w1 + w2) := by
        have := Int.mul_le_mul_of_nonneg_right y1 (show 0 ≤ w1 + w2 by omega)
        omega
      walk_at "go"
      refine x_ixt 0 (SqT.of hy1) rfl rfl ?_
      walk_at "go"
      refine x_ixt 1 (SqT.of hy1) rfl rfl ?_
      walk_at "go"
      refine ⟨_, _, rfl, ⟨by omega, by omega⟩, yw1, ⟨by omega, by omega⟩, fun H2 p s2 hp hz => ?_⟩
      obtain ⟨h1, h2, h3, h4⟩ := frN_eq (t := y.1) yw1
      generalize frN y.1 (y.2 * (w1 + w2)) = z at h1 h2 h3 h4 hz
      refine q H2 p z (s1.trans s2) (s1.free hp) hz h2 ?_ (by omega) (by omega) (by omega)
      have h8 : (z.1 * x.2) * (y.2 * (w1 + w2)) = (x.1 * z.2) * (y.2 * (w1 + w2)) := by
        have e1 : (z.1 * x.2) * (y.2 * (w1 + w2)) = (z.1 * (y.2 * (w1 + w2))) * x.2 := by rw [Int.mul_assoc, Int.mul_comm x.2, ← Int.mul_assoc]
        have e2 : (y.1 * z.2) * x.2 = (y.1 * x.2) * z.2 := by rw [Int.mul_assoc, Int.mul_comm z.2, ← Int.mul_assoc]
        have e3 : (x.1 * z.2) * (y.2 * (w1 + w2)) = (x.1 * (w1 + w2) * y.2) * z.2 := by ac_rfl
        rw [e1, h1, e2, heq, e3]
      exact Int.eq_of_mul_eq_mul_right (by omega) h8
end
/-! ### what a work tells of its stands -/
theorem wkF_none {h : Int} {st : Str} {t n e : Addr} {r : Bool} {m : Str} (h1 : m ≠ "ringless") (h2 : m ≠ "ends") (h3 : m ≠ "names") (h4 : m ≠ "table") (h5 : m ≠ "start") (h6 : m ≠ "hands") : (wkF h st t n e r).lookup m = none := by
  unfold wkF
  rw [lookup_putF, if_neg h1, lookup_putF, if_neg h2, lookup_putF, if_neg h3, lookup_putF, if_neg h4, lookup_putF, if_neg h5, lookup_putF, if_neg h6]
  rfl
theorem wkF_table {h : Int} {st : Str} {t n e : Addr} {r : Bool} : (wkF h st t n e r).lookup ("table" : Str) = some (.ref t) := by
  unfold wkF
  rw [lookup_putF, if_neg (by decide +kernel), lookup_putF, if_neg (by decide +kernel), lookup_putF, if_neg (by decide +kernel), lookup_putF, if_pos rfl]
theorem wkF_start {h : Int} {st : Str} {t n e : Addr} {r : Bool} : (wkF h st t n e r).lookup ("start" : Str) = some (.str st) := by
  unfold wkF
  rw [lookup_putF, if_neg (by decide +kernel), lookup_putF, if_neg (by decide +kernel), lookup_putF, if_neg (by decide +kernel), lookup_putF, if_neg (by decide +kernel), lookup_putF, if_pos rfl]
theorem wkF_hands {h : Int} {st : Str} {t n e : Addr} {r : Bool} : (wkF h st t n e r).lookup ("hands" : Str) = some (.int h) := by
  unfold wkF
  rw [lookup_putF, if_neg (by decide +kernel), lookup_putF, if_neg (by decide +kernel), lookup_putF, if_neg (by decide +kernel), lookup_putF, if_neg (by decide +kernel), lookup_putF, if_neg (by decide +kernel), lookup_putF, if_pos rfl]
def moverV : Sd → V
  | .hand k _ => .int k
  | _ => .non
def stepsL : Sd → List Str
  | .fin => []
  | .chance l => l.map (·.1)
  | .hand _ l => l.map (·.1)
def toS : Sd → Str → Option Str
  | .fin, _ => none
  | .chance l, z => (l.lookup z).map (·.1)
  | .hand _ l, z => l.lookup z
def SrtSd (x : Sd) : Prop := sortedS (stepsL x) = true
theorem toS_mem {x : Sd} {z t : Str} (h : toS x z = some t) : z ∈ stepsL x := by
  cases x with
  | fin => cases h
  | chance l =>
    show z ∈ l.map (·.1)
    have h1 : (l.lookup z).map (·.1) = some t := h
    cases e : l.lookup z with
    | none => rw [e] at h1; cases h1
    | some q => exact List.mem_map.mpr ⟨_, lookup_mem e, rfl⟩
  | hand k l => exact List.mem_map.mpr ⟨_, lookup_mem (show l.lookup z = some t from h), rfl⟩
theorem toS_some {x : Sd} {z : Str} (h : z ∈ stepsL x) : ∃ t, toS x z = some t := by
  cases x with
  | fin => cases h
  | chance l =>
    obtain ⟨q, hq⟩ := lookup_isSome (l := l) (z := z) h
    exact ⟨q.1, by show (l.lookup z).map (·.1) = _; rw [hq]; rfl⟩
  | hand k l => exact lookup_isSome (l := l) h
def spRow (C : Addr) : Sp := fun vs H Q _ => ∃ (a : Addr) (h : Int) (st z : Str) (l : List (Str × Sd)) (x : Sd), vs = [.ref a, .str z] ∧ WorkAt C H a h st l ∧ l.lookup z = some x ∧ ∀ b, SdAt H b x → Q (.ref b) H
def spKind (C : Addr) : Sp := fun vs H Q _ => ∃ (a : Addr) (h : Int) (st z : Str) (l : List (Str × Sd)) (x : Sd), vs = [.ref a, .str z] ∧ WorkAt C H a h st l ∧ l.lookup z = some x ∧ Q (.str (kindS x)) H
def spMover (C : Addr) : Sp := fun vs H Q _ => ∃ (a : Addr) (h : Int) (st z : Str) (l : List (Str × Sd)) (x : Sd), vs = [.ref a, .str z] ∧ WorkAt C H a h st l ∧ l.lookup z = some x ∧ Q (moverV x) H
def spSteps (C : Addr) : Sp := fun vs H Q _ => ∃ (a : Addr) (h : Int) (st z : Str) (l : List (Str × Sd)) (x : Sd), vs = [.ref a, .str z] ∧ WorkAt C H a h st l ∧ l.lookup z = some x ∧ GoodSd h (l.map (·.1)) x ∧ SrtSd x ∧
  ∀ H' p, L2.Same H H' → H p = none → H' p = some (.lst (strsV (stepsL x))) → Q (.ref p) H'
def spTo (C : Addr) : Sp := fun vs H Q _ => ∃ (a : Addr) (h : Int) (st z s t : Str) (l : List (Str × Sd)) (x : Sd), vs = [.ref a, .str z, .str s] ∧ WorkAt C H a h st l ∧ l.lookup z = some x ∧ toS x s = some t ∧ Q (.str t) H
/-! ### plans: an entry -/
structure Ent where
  fr : Int × Int
  mv : Option Str
  rk : Int
def mvV : Option Str → V
  | none => .non
  | some m => .str m
def EntAt (H : Hp) (e : Addr) (x : Ent) : Prop := ∃ f, H e = some (.tup [.ref f, mvV x.mv, .int x.rk]) ∧ FrAt H f x.fr
theorem EntAt.same {H H' : Hp} {e : Addr} {x : Ent} (h : EntAt H e x) (s : L2.Same H H') : EntAt H' e x := by
  obtain ⟨f, h1, h2⟩ := h
  exact ⟨f, s _ _ h1, s _ _ h2⟩
/-- what may be written for a stand: a move where its hand is in the lot -/
def mvOk (lot : List Int) (x : Sd) (mv : Option Str) : Prop := match x with
  | .hand k _ => if k ∈ lot then ∃ m, mv = some m ∧ m ∈ stepsL x else mv = none
  | _ => mv = none
structure EntOk (lot : List Int) (x : Sd) (e : Ent) : Prop where
  d1 : 1 ≤ e.fr.2
  d2 : Sml e.fr.2
  g : Nat.gcd e.fr.1.natAbs e.fr.2.natAbs = 1
  rk : 0 ≤ e.rk
  mv : mvOk lot x e.mv
def spIsEntry (K : PySem.W.Frag) (C : Addr) : Sp := fun vs H Q _ => ∃ (a lo e : Addr) (h : Int) (st z : Str) (l : List (Str × Sd)) (x : Sd) (lot : List Int) (en : Ent), vs = [.ref a, .ref lo, .str z, .ref e] ∧ WorkAt C H a h st l ∧ l.lookup z = some x ∧ SqT K H lo (intsV lot) ∧ EntAt H e en ∧ EntOk lot x en ∧ Q (.bl true) H
section
variable {P : Program} {w : World} {K : PySem.W.Frag} {mg : Str → Option Value} {base : Heap} {CW : Addr}
theorem ok_is_entry {f : Addr} {fd : FuncData} (F : Fun K "is_entry" "is_entry" s_is_entry f fd) (K_Work : Cls K CW) (N1 : NoAttr K CW "table") (Z_str : mg "str" = none) (Z_tuple : mg "tuple" = none) (Z_len : mg "len" = none) (Z_isinstance : mg "isinstance" = none)
    (C_is_fraction : Cal P w K mg base 2 "is_fraction" ["thing"] spIsFrac) (C_is_integer : Cal P w K mg base 1 "is_integer" ["thing"] (spIsInt K)) : FnOk P w K mg base CX0 3 f fd ["work", "lot", "stand", "entry"] (spIsEntry K CW) := by
  refine F.ok sc_is_entry (fun vs H Q E h => ?_) (fun cdv A outer s H vs Q E hr h => ?_)
  · obtain ⟨_, _, _, _, _, _, _, _, _, _, rfl, _⟩ := h
    rfl
  · obtain ⟨a, lo, e, h, st, z, l, x, lot, en, rfl, wa, hz, hlo, he, ok, q⟩ := h
    obtain ⟨dx, t, n, e0, h1, hT, _, _⟩ := wa.ex
    obtain ⟨m, b, hm, hb, hx⟩ := hT.at hz
    obtain ⟨fr, he1, hfr⟩ := he
    obtain ⟨d1, d2, gg, rk, mv⟩ := ok
    have hu := hu_of hr
    refine ⟨_, (pss_cons (ps_if (PW.pt (pw_or (pt_not (pt_val (pe_callB call_isi (by rfl) Z_isinstance (by decide +kernel) (pa_cons (pv 2) (pa_cons (pe_bltn (v := .ty "str") (by rfl) Z_str (by decide +kernel) rfl) pa_nil))))) (pw_or1 (pt_cmp (pc_dnotin hu (pv 2) (pe_fld (pv 0) rfl))))))
      (pss_one (ps_ret pe_bl))
      pss_nil)
      (pss_cons (ps_if (PW.pt (pw_or (pt_not (pt_val (pe_callB call_isi (by rfl) Z_isinstance (by decide +kernel) (pa_cons (pv 3) (pa_cons (pe_bltn (v := .ty "tuple") (by rfl) Z_tuple (by decide +kernel) rfl) pa_nil))))) (pw_or1 (pt_cmpR op_ne (pe_callB call_lenA (by rfl) Z_len (by decide +kernel) (pa_cons (pv 3) pa_nil)) pe_int (nomark _)))))
      (pss_one (ps_ret pe_bl))
      pss_nil)
      (pss_cons (ps_if (PW.pt (pw_or (pt_not (pt_val (pe_cal C_is_fraction (hr.mono (by decide)) (by rfl) (pa_cons (pe_ix ix_tup (pv 3) pe_int (fun _ _ => rfl)) pa_nil)))) (pw_or (pt_not (pt_val (pe_cal C_is_integer (hr.mono (by decide)) (by rfl) (pa_cons (pe_ix ix_tup (pv 3) pe_int (fun _ _ => rfl)) pa_nil)))) (pw_or1 (pt_cmpR op_lt (pe_ix ix_tup (pv 3) pe_int (fun _ _ => rfl)) pe_int (nomark _))))))
      (pss_one (ps_ret pe_bl))
      pss_nil)
      (pss_cons (ps_set (i := 4) sc_is_entry.nd rfl (Or.inl rfl) (pe_dget hu (pe_fld (pv 0) rfl) (pv 2) (fun _ _ => rfl)))
      (pss_cons (ps_if (PW.pt (pw_or (pt_cmpR op_ne (pe_ix ix_tup (pv 4) pe_int (fun _ _ => rfl)) pe_str (nomark _)) (pw_or1 (pt_cmpR op_notIn_seq (pe_ix ix_tup (pv 4) pe_int (fun _ _ => rfl)) (pv 1) rfl))))
      (pss_one (ps_ret (pe_cmpR op_isNA (pe_ix ix_tup (pv 3) pe_int (fun _ _ => rfl)) pe_non (nomark _))))
      pss_nil)
      (pss_one (ps_ret (pe_and (pe_callB call_isi (by rfl) Z_isinstance (by decide +kernel) (pa_cons (pe_ix ix_tup (pv 3) pe_int (fun _ _ => rfl)) (pa_cons (pe_bltn (v := .ty "str") (by rfl) Z_str (by decide +kernel) rfl) pa_nil))) (pe_one (pe_cmp (pc_din hu (pe_ix ix_tup (pv 3) pe_int (fun _ _ => rfl)) (pe_ix ix_tup (pv 4) pe_int (fun _ _ => rfl))))))))))))), ?_⟩
    walk_at "go"
    refine x_isiStr (.str _) ?_
    walk_at "go"
    refine x_nT ?_
    walk_at "go"
    refine x_fld K_Work N1 h1 wkF_table ?_
    walk_at "go"
    refine x_ninD (l := m) (.inl hm) ?_
    rw [hb]
    refine ⟨false, rfl, x_F ?_⟩
    walk_at "go"
    refine x_isiTup (.tup (SqT.of he1)) ?_
    walk_at "go"
    refine x_nT ?_
    walk_at "go"
    refine x_lenT (SqT.of he1) ?_
    walk_at "go"
    refine x_nyes rfl ?_
    walk_at "go"
    refine x_ixt 0 (SqT.of he1) rfl rfl ?_
    walk_at "go"
    refine ⟨fr, en.fr, rfl, hfr, d1, d2, gg, ?_⟩
    walk_at "go"
    refine x_ixt 2 (SqT.of he1) rfl rfl ?_
    walk_at "go"
    refine ⟨_, _, rfl, .int _, ?_⟩
    walk_at "go"
    refine x_nT ?_
    walk_at "go"
    refine x_ixt 2 (SqT.of he1) rfl rfl ?_
    walk_at "go"
    refine x_no (by omega) ?_
    walk_at "go"
    refine x_fld K_Work N1 h1 wkF_table ?_
    walk_at "go"
    refine x_getL (.inl hm) hb ?_
    walk_at "go"
    cases x with
    | fin =>
      have hb1 : H b = some (.tup [.str "end"]) := hx
      have e1 : en.mv = none := mv
      refine x_ixt 0 (SqT.of hb1) rfl rfl ?_
      walk_at "go"
      refine x_nno (by decide +kernel) ?_
      walk_at "go"
      refine x_ixt 1 (SqT.of he1) rfl rfl ?_
      rw [e1]
      refine x_isN ?_
      exact q
    | chance l2 =>
      obtain ⟨d, hb1, _⟩ := hx
      have e1 : en.mv = none := mv
      refine x_ixt 0 (SqT.of hb1) rfl rfl ?_
      walk_at "go"
      refine x_nno (by decide +kernel) ?_
      walk_at "go"
      refine x_ixt 1 (SqT.of he1) rfl rfl ?_
      rw [e1]
      refine x_isN ?_
      exact q
    | hand k2 l2 =>
      obtain ⟨d, hb1, hd⟩ := hx
      have e1 : if k2 ∈ lot then ∃ m, en.mv = some m ∧ m ∈ stepsL (.hand k2 l2) else en.mv = none := mv
      refine x_ixt 0 (SqT.of hb1) rfl rfl ?_
      walk_at "go"
      refine x_nyes rfl ?_
      walk_at "go"
      refine x_ixt 1 (SqT.of hb1) rfl rfl ?_
      walk_at "go"
      refine x_ninTi (ws := lot) hlo ?_
      by_cases hk : k2 ∈ lot
      · rw [if_pos hk] at e1
        obtain ⟨mm, hmm, hms⟩ := e1
        rw [hmm] at he1
        refine ⟨_, rfl, x_nyes hk ?_⟩
        walk_at "go"
        refine x_ixt 1 (SqT.of he1) rfl rfl ?_
        walk_at "go"
        refine x_isiStr (.str _) ?_
        walk_at "go"
        refine x_T ?_
        walk_at "go"
        refine x_ixt 1 (SqT.of he1) rfl rfl ?_
        walk_at "go"
        refine x_ixt 2 (SqT.of hb1) rfl rfl ?_
        walk_at "go"
        refine x_inD (l := l2) (.inl hd) ?_
        obtain ⟨y, hy⟩ := lookup_isSome (l := l2) (z := mm) hms
        rw [hy]
        exact q
      · rw [if_neg hk] at e1
        refine ⟨_, rfl, x_nno hk ?_⟩
        walk_at "go"
        refine x_ixt 1 (SqT.of he1) rfl rfl ?_
        rw [e1]
        refine x_isN ?_
        exact q
end
/-! ### plans: what is shown for a hand's stand -/
theorem fr_eqv (x : Int × Int) : PyData.eqv (.tuple [.int x.1, .int x.2]) (.tuple [.int x.1, .int x.2]) = true := SeqAt.eqv_refl _ rfl
theorem fr_dp {K : PySem.W.Frag} {H : Hp} {a : Addr} {x : Int × Int} (h : FrAt H a x) : Dp K H (.ref a) (.tuple [.int x.1, .int x.2]) := .tup (SqT.of h) (.cons (.int _) (.cons (.int _) .nil))
theorem x_eqFr {K : PySem.W.Frag} {H : Hp} {Q : VK} {a b : Addr} {x : Int × Int} (h1 : FrAt H a x) (h2 : FrAt H b x) (q : Q (.bl true) H) : rEqD K (.ref a) (.ref b) H Q :=
  ⟨_, _, fr_dp h1, fr_dp h2, rfl, rfl, by rw [fr_eqv]; exact q⟩
theorem x_neFr {K : PySem.W.Frag} {H : Hp} {Q : VK} {a b : Addr} {x : Int × Int} (h1 : FrAt H a x) (h2 : FrAt H b x) (q : Q (.bl false) H) : rNeD K (.ref a) (.ref b) H Q :=
  ⟨_, _, fr_dp h1, fr_dp h2, rfl, rfl, by rw [fr_eqv]; exact q⟩
/-- the entries behind, all of one fraction -/
structure EntsAt (H : Hp) (as : List Addr) (es : List Ent) : Prop where
  len : as.length = es.length
  at_ : ∀ (i : Nat) (a : Addr) (e : Ent), as[i]? = some a → es[i]? = some e → EntAt H a e
def handB (cm : Bool) (r : Int) (es : List Ent) : Bool := !(cm && es.any fun e => decide (r ≤ e.rk))
def spHandShown (C : Addr) : Sp := fun vs H Q _ => ∃ (wi e bh dw t : Addr) (e0 : Int) (cm : Bool) (en : Ent) (as : List Addr) (es : List Ent), vs = [.ref wi, .ref e, .ref bh] ∧ H wi = some (.ins C dw (wF t e0 cm)) ∧ EntAt H e en ∧ Sml en.fr.1 ∧ H bh = some (.lst (as.map V.ref)) ∧
  EntsAt H as es ∧ (∀ x ∈ es, x.fr = en.fr) ∧ Q (.bl (handB cm en.rk es)) H
section
variable {P : Program} {w : World} {K : PySem.W.Frag} {mg : Str → Option Value} {base : Heap} {C : Addr}
theorem ok_is_hand_shown {f : Addr} {fd : FuncData} (F : Fun K "is_hand_shown" "is_hand_shown" s_is_hand_shown f fd) (K_Wish : Cls K C) (N1 : NoAttr K C "coming") (C_less : Cal P w K mg base 1 "less" ["one", "other"] spLess) : FnOk P w K mg base CX0 2 f fd ["wish", "entry", "behind"] (spHandShown C) := by
  refine F.ok sc_is_hand_shown (fun vs H Q E h => ?_) (fun cdv A outer s H vs Q E hr h => ?_)
  · obtain ⟨_, _, _, _, _, _, _, _, _, _, rfl, _⟩ := h
    rfl
  · obtain ⟨wi, e, bh, dw, t, e0, cm, en, as, es, rfl, hw, he, hsm, hbh, hE, hfr, q⟩ := h
    obtain ⟨fr, he1, hf1⟩ := he
    refine ⟨_, (pss_cons (ps_for PassesOwn.never rfl (pi_list (pv 2)) (pg_name (i := 3) sc_is_hand_shown.nd rfl (Or.inl rfl))
      (pss_cons (ps_if (pt_val (pe_cal C_less (hr.mono (by decide)) (by rfl) (pa_cons (pe_ix ix_tup (pv 3) pe_int (fun _ _ => rfl)) (pa_cons (pe_ix ix_tup (pv 1) pe_int (fun _ _ => rfl)) pa_nil))))
      (pss_one (ps_ret pe_bl))
      pss_nil)
      (pss_one (ps_if (PW.pt (pw_and (pt_val (pe_fld (pv 0) rfl)) (pw_and (pt_cmpR (op_eqD hr.units) (pe_ix ix_tup (pv 3) pe_int (fun _ _ => rfl)) (pe_ix ix_tup (pv 1) pe_int (fun _ _ => rfl)) (nomark _)) (pw_and1 (pt_cmpR op_ge (pe_ix ix_tup (pv 3) pe_int (fun _ _ => rfl)) (pe_ix ix_tup (pv 1) pe_int (fun _ _ => rfl)) (nomark _))))))
      (pss_one (ps_ret pe_bl))
      pss_nil))))
      (pss_one (ps_ret pe_bl))), ?_⟩
    walk_at "go"
    refine lpL (xs := as.map V.ref) (fun i σ H' => ∃ v, σ = [some (.ref wi), some (.ref e), some (.ref bh), v] ∧ H' = H ∧ (cm && (es.take i).any fun x => decide (en.rk ≤ x.rk)) = false) (SqL.of hbh) ?_ ?_ ?_ ?_
    · exact ⟨_, rfl, rfl, by simp⟩
    · rintro i σ H' _ ⟨_, _, rfl, _⟩
      exact SqL.of hbh
    · rintro i v σ H' hv ⟨v3, rfl, rfl, hno⟩
      rw [List.getElem?_map] at hv
      cases ha : as[i]? with
      | none => rw [ha] at hv; cases hv
      | some a =>
        rw [ha] at hv
        have ex : V.ref a = v := Option.some.inj hv
        subst ex
        have hi : i < as.length := (List.getElem?_eq_some_iff.mp ha).1
        have hx : es[i]? = some (es[i]'(by rw [← hE.len]; exact hi)) := List.getElem?_eq_getElem _
        generalize (es[i]'(by rw [← hE.len]; exact hi)) = x at hx
        obtain ⟨f2, ha1, hf2⟩ := hE.at_ i a x ha hx
        rw [hfr x (List.mem_of_getElem? hx)] at hf2
        walk_at "go"
        refine x_ixt 0 (SqT.of ha1) rfl rfl ?_
        walk_at "go"
        refine x_ixt 0 (SqT.of he1) rfl rfl ?_
        walk_at "go"
        refine ⟨f2, fr, en.fr, en.fr, rfl, hf2, hf1, hsm, hsm, ?_⟩
        walk_at "go"
        refine x_no (by omega) ?_
        walk_at "go"
        refine x_fld K_Wish N1 hw (wF_coming _ _ _) ?_
        walk_at "go"
        have bad : cm = true → en.rk ≤ x.rk → handB cm en.rk es = false := fun h1 h2 => by
          unfold handB
          rw [h1, Bool.true_and, Bool.not_eq_false']
          exact List.any_eq_true.mpr ⟨x, List.mem_of_getElem? hx, decide_eq_true h2⟩
        refine x_ite (fun hc => ?_) (fun hc => ?_)
        · walk_at "go"
          refine x_ixt 0 (SqT.of ha1) rfl rfl ?_
          walk_at "go"
          refine x_ixt 0 (SqT.of he1) rfl rfl ?_
          walk_at "go"
          refine x_eqFr hf2 hf1 ?_
          walk_at "go"
          refine x_ixt 2 (SqT.of ha1) rfl rfl ?_
          walk_at "go"
          refine x_ixt 2 (SqT.of he1) rfl rfl ?_
          walk_at "go"
          refine x_dec (fun hk => ?_) (fun hk => ?_)
          · walk_at "go"
            rw [bad hc hk] at q
            exact q
          · walk_at "go"
            refine ⟨_, rfl, rfl, ?_⟩
            rw [take_succ_get hx, List.any_append]
            rw [hc] at hno ⊢
            rw [Bool.true_and] at hno ⊢
            rw [hno]
            simp [hk]
        · walk_at "go"
          exact ⟨_, rfl, rfl, by rw [hc]; rfl⟩
    · rintro σ H' ⟨v3, rfl, rfl, hno⟩
      rw [List.length_map, hE.len, List.take_length] at hno
      walk_at "go"
      unfold handB at q
      rw [hno] at q
      exact q
end
/-! ### plans: where a stand leads, its draws -/
def goalsL (x : Sd) : Option Str → List Str
  | none => leadsL x
  | some m => (toS x m).toList
def spGoals (C : Addr) : Sp := fun vs H Q _ => ∃ (a : Addr) (h : Int) (st z : Str) (l : List (Str × Sd)) (x : Sd) (mv : Option Str), vs = [.ref a, .str z, mvV mv] ∧ WorkAt C H a h st l ∧ l.lookup z = some x ∧ GoodSd h (l.map (·.1)) x ∧
  (∀ m, mv = some m → ∃ k l2 t, x = .hand k l2 ∧ l2.lookup m = some t) ∧ ∀ H' p, L2.Same H H' → H p = none → H' p = some (.lst (strsV (goalsL x mv))) → Q (.ref p) H'
section
variable {P : Program} {w : World} {K : PySem.W.Frag} {mg : Str → Option Value} {base : Heap} {CW : Addr}
theorem ok_goals {f : Addr} {fd : FuncData} (F : Fun K "goals" "goals" s_goals f fd) (K_Work : Cls K CW) (N1 : NoAttr K CW "table") (C_leads : Cal P w K mg base 1 "leads" ["work", "stand"] (spLeads CW)) : FnOk P w K mg base CX0 2 f fd ["work", "stand", "move"] (spGoals CW) := by
  refine F.ok sc_goals (fun vs H Q E h => ?_) (fun cdv A outer s H vs Q E hr h => ?_)
  · obtain ⟨_, _, _, _, _, _, _, rfl, _⟩ := h
    rfl
  · obtain ⟨a, h, st, z, l, x, mv, rfl, wa, hz, hg, hmv, q⟩ := h
    obtain ⟨dx, t, n, e0, h1, hT, _, _⟩ := wa.ex
    have hu := hu_of hr
    refine ⟨_, (pss_cons (ps_if (pt_cmpR op_isNA (pv 2) pe_non (nomark _))
      (pss_one (ps_ret (pe_cal C_leads (hr.mono (by decide)) (by rfl) (pa_cons (pv 0) (pa_cons (pv 1) pa_nil)))))
      pss_nil)
      (pss_one (ps_ret (pe_lst (pa_cons (pe_dget hu (pe_ix ix_tup (pe_dget hu (pe_fld (pv 0) rfl) (pv 1) (fun _ _ => rfl)) pe_int (fun _ _ => rfl)) (pv 2) (fun _ _ => rfl)) pa_nil))))), ?_⟩
    cases mv with
    | none =>
      walk_at "go"
      refine x_yes rfl ?_
      walk_at "go"
      exact ⟨a, dx, t, _, l, z, x, h, _, rfl, h1, wkF_table, hT, hz, hg, q⟩
    | some m =>
      obtain ⟨k, l2, tt, rfl, hm⟩ := hmv m rfl
      obtain ⟨mm, b, hmm, hb, hx⟩ := hT.at hz
      obtain ⟨d, hb1, hd⟩ := hx
      walk_at "go"
      refine x_no (fun e => by cases e) ?_
      walk_at "go"
      refine x_fld K_Work N1 h1 wkF_table ?_
      walk_at "go"
      refine x_getL (.inl hmm) hb ?_
      walk_at "go"
      refine x_ixt 2 (SqT.of hb1) rfl rfl ?_
      walk_at "go"
      refine x_getL (l := l2) (.inl hd) hm ?_
      walk_at "go"
      refine ⟨sz_le (by simp), fun p hp => ?_⟩
      refine q _ p (same_new hp) hp ?_
      rw [upd_same]
      have e : goalsL (.hand k l2) (some m) = [tt] := by
        show (l2.lookup m).toList = [tt]
        rw [hm]
        rfl
      rw [e]
      rfl
/-- the draws as triples -/
structure TripAt (H : Hp) (as : List Addr) (ps : List (Str × (Str × Int))) : Prop where
  len : as.length = ps.length
  at_ : ∀ (i : Nat) (a : Addr) (q : Str × (Str × Int)), as[i]? = some a → ps[i]? = some q → H a = some (.tup [.str q.1, .str q.2.1, .int q.2.2])
theorem TripAt.same {H H' : Hp} {as : List Addr} {ps : List (Str × (Str × Int))} (r : TripAt H as ps) (s : L2.Same H H') : TripAt H' as ps := ⟨r.len, fun i a q h1 h2 => s _ _ (r.at_ i a q h1 h2)⟩
theorem TripAt.upd {H : Hp} {as : List Addr} {ps : List (Str × (Str × Int))} {D : Addr} {u v : HO} (r : TripAt H as ps) (hD : H D = some u) (hu : ∀ xs, u ≠ .tup xs) : TripAt (L2.upd H D v) as ps := ⟨r.len, fun i a q h1 h2 => by
  have e := r.at_ i a q h1 h2
  have n : a ≠ D := fun z => by
    rw [z, hD] at e
    exact hu _ (Option.some.inj e)
  rw [upd_ne n]
  exact e⟩
theorem TripAt.snoc {H : Hp} {as : List Addr} {ps : List (Str × (Str × Int))} {a : Addr} {q : Str × (Str × Int)} (r : TripAt H as ps) (ha : H a = some (.tup [.str q.1, .str q.2.1, .int q.2.2])) : TripAt H (as ++ [a]) (ps ++ [q]) := by
  refine ⟨by rw [List.length_append, List.length_append, r.len]; rfl, fun i b y h1 h2 => ?_⟩
  by_cases hi : i < as.length
  · rw [List.getElem?_append_left hi] at h1
    rw [List.getElem?_append_left (by rw [← r.len]; exact hi)] at h2
    exact r.at_ i b y h1 h2
  · rw [List.getElem?_append_right (by omega)] at h1
    rw [List.getElem?_append_right (by rw [← r.len]; omega), ← r.len] at h2
    have e : i - as.length = 0 := by
      have := (List.getElem?_eq_some_iff.mp h1).1
      simp at this
      omega
    rw [e] at h1 h2
    cases h1
    cases h2
    exact ha
def spDrawsOf (C : Addr) : Sp := fun vs H Q _ => ∃ (a : Addr) (h : Int) (st z : Str) (l : List (Str × Sd)) (l2 : List (Str × (Str × Int))), vs = [.ref a, .str z] ∧ WorkAt C H a h st l ∧ l.lookup z = some (.chance l2) ∧ GoodSd h (l.map (·.1)) (.chance l2) ∧
  ∀ H' p as, L2.Same H H' → H p = none → H' p = some (.lst (as.map V.ref)) → TripAt H' as l2 → Q (.ref p) H'
theorem ok_draws_of {f : Addr} {fd : FuncData} (F : Fun K "draws_of" "draws_of" s_draws_of f fd) (K_Work : Cls K CW) (N1 : NoAttr K CW "table") : FnOk P w K mg base CX0 1 f fd ["work", "stand"] (spDrawsOf CW) := by
  refine F.ok sc_draws_of (fun vs H Q E h => ?_) (fun cdv A outer s H vs Q E hr h => ?_)
  · obtain ⟨_, _, _, _, _, _, rfl, _⟩ := h
    rfl
  · obtain ⟨a, h, st, z, l, l2, rfl, wa, hz, hg, q⟩ := h
    obtain ⟨dx, t, n, e0, h1, hT, _, _⟩ := wa.ex
    obtain ⟨mm, b, hmm, hb, hx⟩ := hT.at hz
    obtain ⟨d, hb1, hD⟩ := hx
    obtain ⟨g1, g2, g3, g4⟩ := hg
    obtain ⟨m2, hd, hk, hp⟩ := hD.ex
    have hkl : m2.length = l2.length := by
      have := congrArg List.length hk
      rwa [List.length_map, List.length_map] at this
    have nd2 : (m2.map (·.1)).Nodup := by rw [hk]; exact g1
    have hu := hu_of hr
    refine ⟨_, (pss_cons (ps_set (i := 2) sc_draws_of.nd rfl (Or.inr rfl) (pe_ix ix_tup (pe_dget hu (pe_fld (pv 0) rfl) (pv 1) (fun _ _ => rfl)) pe_int (fun _ _ => rfl)))
      (pss_one (ps_ret (pe_lock (pe_lc (own := [("draw", 3)]) (g := gName 3) (tt := tYes) (by rfl) sc_draws_of.nd (pi_keys (pv 2)) (blkOk_by (own := [("draw", 3)]) (N := N_draws_of) (sc := defScope s_draws_of) (by decide +kernel)) (fun _ _ _ _ _ => (pg_name (i := 3) sc_draws_of.nd rfl (Or.inl rfl))) (fun _ _ _ _ _ => pts_nil) (fun _ _ _ _ _ => by exact (pe_tup (pa_cons (pv 3) (pa_cons (pe_ix (ix_tupK (K := K)) (pe_dget hu (pv 2) (pv 3) (fun _ _ => rfl)) pe_int (fun _ _ => rfl)) (pa_cons (pe_ix (ix_tupK (K := K)) (pe_dget hu (pv 2) (pv 3) (fun _ _ => rfl)) pe_int (fun _ _ => rfl)) pa_nil)))))))))), ?_⟩
    walk_at "go"
    refine x_fld K_Work N1 h1 wkF_table ?_
    walk_at "go"
    refine x_getL (.inl hmm) hb ?_
    walk_at "go"
    refine x_ixt 1 (SqT.of hb1) rfl rfl ?_
    walk_at "go"
    refine x_lockE hd trivial fun od => ?_
    walk_at "go"
    refine runK upd_same ?_
    intro D hD2
    have hDd : D ≠ d := fun z => by rw [z, upd_same] at hD2; cases hD2
    have hD0 : H D = none := by rw [upd_ne hDd] at hD2; exact hD2
    refine lcK (kvs := strK V.ref m2) (fun i H' => L2.Same (upd H d (.frz od (.dK (strK V.ref m2)))) H' ∧ ∃ as, H' D = some (.lst (as.map V.ref)) ∧ TripAt H' as (l2.take i)) ?_ ?_ ?_ ?_
    · exact ⟨same_new hD2, [], upd_same, by simp, fun i a q h => by cases h⟩
    · exact fun i H' _ h => h.1 d _ upd_same
    · rintro i k0 v0 H' hi ⟨s1, as, hD1, hR⟩
      obtain ⟨z2, y, rfl, rfl, hly⟩ := strK_at hi
      have hym := List.mem_of_getElem? hly
      obtain ⟨v, hv, hr2⟩ := hp _ _ hym
      have nyd : y ≠ d := ne_of (show H y = some _ from hr2) hd (by intro z; cases z)
      have hy1 : H' y = some (.tup [.str v.1, .int v.2]) := s1 _ _ (by rw [upd_ne nyd]; exact hr2)
      have hli : l2[i]? = some (z2, v) := by
        have e1 : (m2.map (·.1))[i]? = some z2 := by rw [List.getElem?_map, hly]; rfl
        rw [hk, List.getElem?_map] at e1
        cases e2 : l2[i]? with
        | none => rw [e2] at e1; cases e1
        | some q2 =>
          rw [e2] at e1
          have e3 : q2.1 = z2 := Option.some.inj e1
          have e4 := lookup_of g1 (z := q2.1) (x := q2.2) (List.mem_of_getElem? e2)
          rw [e3, hv] at e4
          have e5 := Option.some.inj e4
          rw [← e3, e5]
      have hlt : i < l2.length := (List.getElem?_eq_some_iff.mp hli).1
      walk_at "go"
      refine ⟨rfl, ?_⟩
      walk_at "go"
      refine x_getL (l := m2) (.inr ⟨od, s1 _ _ upd_same⟩) (lookup_of nd2 hym) ?_
      walk_at "go"
      refine x_ixt 0 (SqT.of hy1) rfl rfl ?_
      walk_at "go"
      refine x_getL (l := m2) (.inr ⟨od, s1 _ _ upd_same⟩) (lookup_of nd2 hym) ?_
      walk_at "go"
      refine x_ixt 1 (SqT.of hy1) rfl rfl ?_
      walk_at "go"
      refine ⟨sz_le (by simp), fun tt htt => ?_⟩
      have nDt : D ≠ tt := ne_of_none hD1 htt
      have hD4 : (upd H' tt (.tup [.str z2, .str v.1, .int v.2])) D = some (.lst (as.map V.ref)) := by rw [upd_ne nDt]; exact hD1
      refine ⟨_, hD4, sz_lt (by rw [List.length_map, hR.len, List.length_take]; omega), same_upd (same_upd s1 (s1.free htt)) hD2, as ++ [tt], by rw [upd_same]; simp, ?_⟩
      rw [take_succ_get hli]
      exact ((hR.same (same_new htt)).upd hD4 (fun xs e => by cases e)).snoc (q := (z2, v)) (by rw [upd_ne nDt.symm, upd_same])
    · rintro H4 ⟨s1, as, hD1, hR⟩
      have eL : (strK V.ref m2).length = l2.length := by rw [List.length_map]; exact hkl
      rw [eL, List.take_length] at hR
      refine ⟨s1 d _ upd_same, ?_⟩
      exact q _ D as (same_back hd s1) hD0 (by rw [upd_ne hDd]; exact hD1) (hR.upd (s1 d _ upd_same) (fun xs e => by cases e))
end
/-! ### zip in a comprehension; what is shown for a chance's stand -/
theorem op_eqDK {X : Cx} {K : PySem.W.Frag} (hu : X.A.units + 64 < cLine) (e : X.K = K := by rfl) : OpR X (compareOp .Eq) (rEqD K) := e ▸ op_eqD hu
theorem op_neDK {X : Cx} {K : PySem.W.Frag} (hu : X.A.units + 64 < cLine) (e : X.K = K := by rfl) : OpR X (compareOp .NotEq) (rNeD K) := e ▸ op_neD hu
def RunZ (K : PySem.W.Frag) (R : It → Hp → Prop) (vs : List V) (H : Hp) : Prop := ∃ a b xs ys, vs = [.ref a, .ref b] ∧ SqL K H a xs ∧ SqL K H b ys ∧ R (Itz K a b) H
theorem x_iZ {K : PySem.W.Frag} {ta : TA} {σ : L2.St} {H : Hp} {R : It → Hp → Prop} (h : ta σ H fun vs H1 => RunZ K R vs H1) : iZip K ta σ H R := h
theorem runZ {K : PySem.W.Frag} {R : It → Hp → Prop} {H : Hp} {a b : Addr} {xs ys : List V} (h1 : SqL K H a xs) (h2 : SqL K H b ys) (q : R (Itz K a b) H) : RunZ K R [.ref a, .ref b] H := ⟨a, b, xs, ys, rfl, h1, h2, q⟩
theorem lcZ {K : PySem.W.Frag} {a b D : Addr} {xs ys : List V} {g : TG} {tt : TT} {te : TE} {vs : List Nat} {σ : L2.St} {H : Hp} {Qd : Hp → Prop} (hl : xs.length = ys.length) (Pv : Nat → Hp → Prop) (h0 : Pv 0 (upd H D (.lst []))) (hG : ∀ i H, i ≤ xs.length → Pv i H → SqL K H a xs ∧ SqL K H b ys)
    (hs : ∀ i x y H T, xs[i]? = some x → ys[i]? = some y → Pv i H → H T = none → g (.ref T) (wipe σ vs) (upd H T (.tup [x, y])) fun σ2 H2 => wipe σ2 vs = wipe σ vs ∧ tt σ2 H2 fun b H3 =>
      if b = true then te σ2 H3 fun y H4 => ∃ acc, H4 D = some (.lst acc) ∧ acc.length < sizeLine ∧ Pv (i + 1) (upd H4 D (.lst (acc ++ [y]))) else Pv (i + 1) H3) (hd : ∀ H, Pv xs.length H → Qd H) : LcP (Itz K a b) g tt te vs σ D Qd H := by
  refine ⟨fun i m H => m = xs.length - i ∧ i ≤ xs.length ∧ Pv i H, ⟨xs.length, by simp, Nat.zero_le _, h0⟩, ?_⟩
  rintro i m H ⟨rfl, hi, hp⟩
  obtain ⟨q1, q2⟩ := hG i H hi hp
  by_cases hlt : i < xs.length
  · refine .inr ⟨⟨xs, ys, xs[i], ys[i], q1, q2, by simp [hlt], by simp⟩, Pv (i + 1), fun H' p' => ⟨xs.length - (i + 1), by omega, rfl, hlt, p'⟩, fun v H' y => ?_⟩
    obtain ⟨T, x, z, rfl, hT, rfl, h1, h2⟩ := y
    exact hs i x z H T (h1 xs q1) (h2 ys q2) hp hT
  · have e : i = xs.length := by omega
    exact .inl ⟨⟨xs, ys, q1, q2, .inl (by omega)⟩, hd H (by rw [← e]; exact hp)⟩
def chanceB (cm : Bool) (r : Int) (es : List Ent) : Bool := !cm || es.any fun e => decide (e.rk < r)
def spChanceShown (C : Addr) : Sp := fun vs H Q _ => ∃ (wi e bh wa dw t a1 a2 : Addr) (e0 w1 w2 : Int) (cm : Bool) (en x1 x2 : Ent), vs = [.ref wi, .ref e, .ref bh, .ref wa] ∧ H wi = some (.ins C dw (wF t e0 cm)) ∧ EntAt H e en ∧ -1000 ≤ en.fr.1 ∧ en.fr.1 ≤ 1000 ∧ 1 ≤ en.fr.2 ∧ en.fr.2 ≤ 4 ∧
  H bh = some (.lst [.ref a1, .ref a2]) ∧ H wa = some (.lst [.int w1, .int w2]) ∧ EntAt H a1 x1 ∧ EntAt H a2 x2 ∧ x1.fr = en.fr ∧ x2.fr = en.fr ∧ 1 ≤ w1 ∧ w1 ≤ 10 ∧ 1 ≤ w2 ∧ w2 ≤ 10 ∧ ∀ H', L2.Same H H' → Q (.bl (chanceB cm en.rk [x1, x2])) H'
section
variable {P : Program} {w : World} {K : PySem.W.Frag} {mg : Str → Option Value} {base : Heap} {C : Addr}
theorem ok_is_chance_shown {f : Addr} {fd : FuncData} (F : Fun K "is_chance_shown" "is_chance_shown" s_is_chance_shown f fd) (K_Wish : Cls K C) (N1 : NoAttr K C "coming") (Z_zip : mg "zip" = none) (Z_any : mg "any" = none)
    (C_less : Cal P w K mg base 1 "less" ["one", "other"] spLess) (C_weighted_mean : Cal P w K mg base 4 "weighted_mean" ["rows"] spMean) : FnOk P w K mg base CX0 5 f fd ["wish", "entry", "behind", "weights"] (spChanceShown C) := by
  refine F.ok sc_is_chance_shown (fun vs H Q E h => ?_) (fun cdv A outer s H vs Q E hr h => ?_)
  · obtain ⟨_, _, _, _, _, _, _, _, _, _, _, _, _, _, _, rfl, _⟩ := h
    rfl
  · obtain ⟨wi, e, bh, wa, dw, t, a1, a2, e0, w1, w2, cm, en, x1, x2, rfl, hw, he, b1, b2, b3, b4, hbh, hwa, h1, h2, f1, f2, u1, u2, u3, u4, q⟩ := h
    obtain ⟨fr, he1, hf⟩ := he
    obtain ⟨fr1, h11, h12⟩ := h1
    obtain ⟨fr2, h21, h22⟩ := h2
    rw [f1] at h12
    rw [f2] at h22
    refine ⟨_, (pss_cons (ps_if (pt_val (pe_cal C_less (hr.mono (by decide)) (by rfl) (pa_cons (pe_cal C_weighted_mean (hr.mono (by decide)) (by rfl) (pa_cons (pe_lc (own := [("each", 4), ("weight", 5)]) (g := gTup K 2 (gCons (gName 4) (gCons (gName 5) gNil))) (tt := tYes) (by rfl) sc_is_chance_shown.nd (pi_zip (by rfl) Z_zip (pa_cons (pv 2) (pa_cons (pv 3) pa_nil))) (blkOk_by (own := [("each", 4), ("weight", 5)]) (N := N_is_chance_shown) (sc := defScope s_is_chance_shown) (by decide +kernel)) (fun _ _ _ _ _ => by exact (pg_tupK (K := K) rfl (pgs_cons (pg_name (i := 4) sc_is_chance_shown.nd rfl (Or.inl rfl)) (pgs_cons (pg_name (i := 5) sc_is_chance_shown.nd rfl (Or.inl rfl)) pgs_nil)))) (fun _ _ _ _ _ => pts_nil) (fun _ _ _ _ _ => by exact (pe_tup (pa_cons (pe_ix (ix_tupK (K := K)) (pv 4) pe_int (fun _ _ => rfl)) (pa_cons (pv 5) pa_nil))))) pa_nil)) (pa_cons (pe_ix ix_tup (pv 1) pe_int (fun _ _ => rfl)) pa_nil))))
      (pss_one (ps_ret pe_bl))
      pss_nil)
      (pss_cons (ps_if (pt_not (pt_val (pe_fld (pv 0) rfl)))
      (pss_one (ps_ret pe_bl))
      pss_nil)
      (pss_one (ps_ret (pe_callB (cr_any rfl) (by rfl) Z_any (by decide +kernel) (pa_cons (pe_lc (own := [("each", 4)]) (g := gName 4) (tt := tYes) (by rfl) sc_is_chance_shown.nd (pi_list (pv 2)) (blkOk_by (own := [("each", 4)]) (N := N_is_chance_shown) (sc := defScope s_is_chance_shown) (by decide +kernel)) (fun _ _ _ _ _ => (pg_name (i := 4) sc_is_chance_shown.nd rfl (Or.inl rfl))) (fun _ _ _ _ _ => pts_nil) (fun _ _ _ _ _ => by exact (pe_or (pe_cmpR (op_neDK (K := K) hr.units) (pe_ix (ix_tupK (K := K)) (pv 4) pe_int (fun _ _ => rfl)) (pe_ix (ix_tupK (K := K)) (pv 1) pe_int (fun _ _ => rfl)) (nomark _)) (pe_one (pe_cmpR op_lt (pe_ix (ix_tupK (K := K)) (pv 4) pe_int (fun _ _ => rfl)) (pe_ix (ix_tupK (K := K)) (pv 1) pe_int (fun _ _ => rfl)) (nomark _)))))) pa_nil)))))), ?_⟩
    walk_at "go"
    refine x_iZ ?_
    walk_at "go"
    refine runZ (SqL.of hbh) (SqL.of hwa) ?_
    intro D hD
    refine lcZ (xs := [.ref a1, .ref a2]) (ys := [.int w1, .int w2]) rfl (fun i H' => L2.Same H H' ∧ ∃ as : List Addr, H' D = some (.lst (as.map V.ref)) ∧ as.length = i ∧ (1 ≤ i → ∃ c, as[0]? = some c ∧ H' c = some (.tup [.ref fr1, .int w1])) ∧ (2 ≤ i → ∃ c, as[1]? = some c ∧ H' c = some (.tup [.ref fr2, .int w2]))) ?_ ?_ ?_ ?_
    · exact ⟨same_new hD, [], upd_same, rfl, fun z => absurd z (by decide), fun z => absurd z (by decide)⟩
    · exact fun i H' _ h => ⟨SqL.of (h.1 _ _ hbh), SqL.of (h.1 _ _ hwa)⟩
    · rintro i x y H1 T hx hy ⟨s1, as, hD1, hl, c1, c2⟩ hT
      -- one row is laid
      have row : ∀ (ae fe : Addr) (m1 : V) (rk wt : Int), H ae = some (.tup [.ref fe, m1, .int rk]) → x = .ref ae → y = .int wt → ∀ (Z : Hp → Prop), (∀ H2 c, L2.Same H1 H2 → H1 c = none → H2 c = some (.tup [.ref fe, .int wt]) → Z (upd H2 D (.lst ((as ++ [c]).map V.ref)))) → True := fun _ _ _ _ _ _ _ _ _ _ => trivial
      clear row
      have s2 := same_upd (o := .tup [x, y]) s1 (s1.free hT)
      have nDT : D ≠ T := ne_of_none hD1 hT
      have hD2 : (upd H1 T (.tup [x, y])) D = some (.lst (as.map V.ref)) := by rw [upd_ne nDT]; exact hD1
      have sT : L2.Same H1 (upd H1 T (.tup [x, y])) := same_new hT
      refine x_g2 (SqT.of upd_same) ?_
      generalize upd H1 T (.tup [x, y]) = H2 at s2 hD2 sT ⊢
      refine ⟨rfl, ?_⟩
      cases i with
      | zero =>
        cases hx
        cases hy
        walk_at "go"
        refine x_ixt 0 (SqT.of (s2 _ _ h11)) rfl rfl ?_
        walk_at "go"
        refine ⟨sz_le (by simp), fun c hc => ?_⟩
        have nDc : D ≠ c := ne_of_none hD2 hc
        have hD3 : (upd H2 c (.tup [.ref fr1, .int w1])) D = some (.lst (as.map V.ref)) := by rw [upd_ne nDc]; exact hD2
        have hl0 : as = [] := List.length_eq_zero_iff.mp hl
        subst hl0
        refine ⟨_, hD3, sz_lt (by simp), same_upd (same_upd s2 (s2.free hc)) hD, [c], by rw [upd_same]; rfl, rfl, fun _ => ⟨c, rfl, by rw [upd_ne nDc.symm, upd_same]⟩, fun z => absurd z (by decide)⟩
      | succ i => cases i with
        | zero =>
          cases hx
          cases hy
          walk_at "go"
          refine x_ixt 0 (SqT.of (s2 _ _ h21)) rfl rfl ?_
          walk_at "go"
          refine ⟨sz_le (by simp), fun c hc => ?_⟩
          have nDc : D ≠ c := ne_of_none hD2 hc
          have hD3 : (upd H2 c (.tup [.ref fr2, .int w2])) D = some (.lst (as.map V.ref)) := by rw [upd_ne nDc]; exact hD2
          obtain ⟨d0, hd0, hd1⟩ := c1 (by decide)
          have nd0 : d0 ≠ D := ne_of hd1 hD1 (by intro z; cases z)
          have hd2 := sT _ _ hd1
          refine ⟨_, hD3, sz_lt (by rw [List.length_map, hl]; omega), same_upd (same_upd s2 (s2.free hc)) hD, as ++ [c], by rw [upd_same]; simp, by simp [hl], fun _ => ⟨d0, ?_, by rw [upd_ne nd0, upd_ne (ne_of_none hd2 hc)]; exact hd2⟩, fun _ => ⟨c, ?_, by rw [upd_ne nDc.symm, upd_same]⟩⟩
          · rw [List.getElem?_append_left (by omega)]
            exact hd0
          · rw [List.getElem?_append_right (by omega), hl]
            rfl
        | succ i => cases hx
    · rintro H1 ⟨s1, as, hD1, hl, c1, c2⟩
      obtain ⟨d0, hd0, hd1⟩ := c1 (by simp)
      obtain ⟨d1, hd2, hd3⟩ := c2 (by simp)
      have eas : as = [d0, d1] := by
        match as, hl, hd0, hd2 with
        | [u, v], _, h1, h2 =>
          cases h1
          cases h2
          rfl
      subst eas
      walk_at "go"
      refine ⟨D, d0, d1, fr1, fr2, en.fr, w1, w2, rfl, hD1, hd1, hd3, s1 _ _ h12, s1 _ _ h22, b1, b2, b3, b4, u1, u2, u3, u4, fun H2 p z s2 hp hz z1 zeq za zb zc => ?_⟩
      have s02 := s1.trans s2
      walk_at "go"
      refine x_ixt 0 (SqT.of (s02 _ _ he1)) rfl rfl ?_
      walk_at "go"
      refine ⟨p, fr, z, en.fr, rfl, hz, s02 _ _ hf, ⟨by omega, by omega⟩, ⟨by omega, by omega⟩, ?_⟩
      walk_at "go"
      refine x_no (by omega) ?_
      walk_at "go"
      refine x_fld K_Wish N1 (s02 _ _ hw) (wF_coming _ _ _) ?_
      walk_at "go"
      cases cm with
      | false =>
        walk_at "go"
        exact q H2 s02
      | true =>
        refine x_nT ?_
        walk_at "go"
        refine runL (SqL.of (s02 _ _ hbh)) ?_
        intro E1 hE1
        have one : ∀ (i : Nat) (ae fe : Addr) (x : Ent) (H3 : Hp), L2.Same H2 H3 → H ae = some (.tup [.ref fe, mvV x.mv, .int x.rk]) → FrAt H fe en.fr → H3 E1 = some (.lst ((([x1, x2].take i).map fun x => decide (x.rk < en.rk)).map V.bl)) → [x1, x2][i]? = some x →
            L2.Same H2 (upd H3 E1 (.lst ((([x1, x2].take i).map fun x => decide (x.rk < en.rk)).map V.bl ++ [.bl (decide (x.rk < en.rk))]))) ∧ upd H3 E1 (.lst ((([x1, x2].take i).map fun x => decide (x.rk < en.rk)).map V.bl ++ [.bl (decide (x.rk < en.rk))])) E1 = some (.lst ((([x1, x2].take (i + 1)).map fun x => decide (x.rk < en.rk)).map V.bl)) := by
          intro i ae fe x H3 s3 hae hfe hE hxi
          refine ⟨same_upd s3 hE1, ?_⟩
          rw [upd_same, take_succ_get hxi]
          simp
        refine lcL (xs := [.ref a1, .ref a2]) (fun i H' => L2.Same H2 H' ∧ H' E1 = some (.lst ((([x1, x2].take i).map fun x => decide (x.rk < en.rk)).map V.bl))) ?_ ?_ ?_ ?_
        · exact ⟨same_new hE1, upd_same⟩
        · exact fun i H' _ h => SqL.of ((s02.trans h.1) _ _ hbh)
        · rintro i v H3 hv ⟨s3, hE3⟩
          have s03 := s02.trans s3
          cases i with
          | zero =>
            cases hv
            walk_at "go"
            refine ⟨rfl, ?_⟩
            walk_at "go"
            refine x_ixt 0 (SqT.of (s03 _ _ h11)) rfl rfl ?_
            walk_at "go"
            refine x_ixt 0 (SqT.of (s03 _ _ he1)) rfl rfl ?_
            walk_at "go"
            refine x_neFr (x := en.fr) (s03 _ _ h12) (s03 _ _ hf) ?_
            walk_at "go"
            refine x_ixt 2 (SqT.of (s03 _ _ h11)) rfl rfl ?_
            walk_at "go"
            refine x_ixt 2 (SqT.of (s03 _ _ he1)) rfl rfl ?_
            walk_at "go"
            refine ⟨_, hE3, sz_lt (by simp), one 0 a1 fr1 x1 H3 s3 h11 h12 hE3 rfl⟩
          | succ i => cases i with
            | zero =>
              cases hv
              walk_at "go"
              refine ⟨rfl, ?_⟩
              walk_at "go"
              refine x_ixt 0 (SqT.of (s03 _ _ h21)) rfl rfl ?_
              walk_at "go"
              refine x_ixt 0 (SqT.of (s03 _ _ he1)) rfl rfl ?_
              walk_at "go"
              refine x_neFr (x := en.fr) (s03 _ _ h22) (s03 _ _ hf) ?_
              walk_at "go"
              refine x_ixt 2 (SqT.of (s03 _ _ h21)) rfl rfl ?_
              walk_at "go"
              refine x_ixt 2 (SqT.of (s03 _ _ he1)) rfl rfl ?_
              walk_at "go"
              refine ⟨_, hE3, sz_lt (by simp), one 1 a2 fr2 x2 H3 s3 h21 h22 hE3 rfl⟩
            | succ i => cases hv
        · rintro H3 ⟨s3, hE3⟩
          walk_at "go"
          refine ⟨E1, _, rfl, SqL.of hE3, ?_⟩
          have e : (List.map (fun x => decide (x.rk < en.rk)) (List.take [V.ref a1, V.ref a2].length [x1, x2])).any id = chanceB true en.rk [x1, x2] := by
            show (List.map (fun x : Ent => decide (x.rk < en.rk)) [x1, x2]).any id = _
            unfold chanceB
            simp
          rw [e]
          exact q H3 (s02.trans s3)
end
/-! ### plans: what is shown for a stand -/
structure PlanAt (H : Hp) (D : Addr) (P : List (Str × Ent)) : Prop where
  ex : ∃ m : List (Str × Addr), Rd H D (.dK (strK V.ref m)) ∧ m.map (·.1) = P.map (·.1) ∧ ∀ z a, (z, a) ∈ m → ∃ e, P.lookup z = some e ∧ EntAt H a e
theorem PlanAt.same {H H' : Hp} {D : Addr} {P : List (Str × Ent)} (h : PlanAt H D P) (s : L2.Same H H') : PlanAt H' D P := by
  obtain ⟨m, h1, h2, h3⟩ := h.ex
  exact ⟨m, same_rd s h1, h2, fun z a hza => by
    obtain ⟨e, he, h4⟩ := h3 z a hza
    exact ⟨e, he, h4.same s⟩⟩
theorem PlanAt.at {H : Hp} {D : Addr} {P : List (Str × Ent)} (h : PlanAt H D P) {z : Str} {e : Ent} (he : P.lookup z = some e) : ∃ (m : List (Str × Addr)) (a : Addr), Rd H D (.dK (strK V.ref m)) ∧ m.lookup z = some a ∧ EntAt H a e := by
  obtain ⟨m, h1, h2, h3⟩ := h.ex
  have hz : z ∈ m.map (·.1) := by
    rw [h2]
    exact List.mem_map.mpr ⟨_, lookup_mem he, rfl⟩
  obtain ⟨a, ha⟩ := lookup_isSome hz
  obtain ⟨y, hy, r⟩ := h3 _ _ (lookup_mem ha)
  rw [he] at hy
  cases hy
  exact ⟨m, a, h1, ha, r⟩
def behindE (P : List (Str × Ent)) (ts : List Str) : List Ent := ts.filterMap fun t => P.lookup t
def shownB (wl : List (Str × Int)) (P : List (Str × Ent)) (x : Sd) (z : Str) (en : Ent) : Bool := match x with
  | .fin => !decide (((wl.lookup z).getD 0) * en.fr.2 < en.fr.1 * 1)
  | .hand _ _ => handB true en.rk (behindE P (goalsL x en.mv))
  | .chance _ => chanceB true en.rk (behindE P (goalsL x en.mv))
theorem behindE_succ {P : List (Str × Ent)} {ts : List Str} {i : Nat} {t : Str} {e : Ent} (ht : ts[i]? = some t) (he : P.lookup t = some e) : behindE P (ts.take (i + 1)) = behindE P (ts.take i) ++ [e] := by
  rw [take_succ_get ht]
  unfold behindE
  rw [List.filterMap_append]
  show _ ++ List.filterMap (fun t => P.lookup t) [t] = _
  rw [List.filterMap_cons, he]
  rfl
theorem FrAt.upd {H : Hp} {f D : Addr} {x : Int × Int} {u v : HO} (h : FrAt H f x) (hD : H D = some u) (hu : ∀ xs, u ≠ .tup xs) : FrAt (L2.upd H D v) f x := by
  have n : f ≠ D := fun z => by
    have e : H f = some (.tup [.int x.1, .int x.2]) := h
    rw [z, hD] at e
    exact hu _ (Option.some.inj e)
  show (L2.upd H D v) f = _
  rw [upd_ne n]
  exact h
theorem EntAt.upd {H : Hp} {a D : Addr} {x : Ent} {u v : HO} (h : EntAt H a x) (hD : H D = some u) (hu : ∀ xs, u ≠ .tup xs) : EntAt (L2.upd H D v) a x := by
  obtain ⟨f, h1, h2⟩ := h
  have n : a ≠ D := fun z => by
    rw [z, hD] at h1
    exact hu _ (Option.some.inj h1)
  exact ⟨f, by rw [upd_ne n]; exact h1, h2.upd hD hu⟩
theorem EntsAt.same {H H' : Hp} {as : List Addr} {es : List Ent} (r : EntsAt H as es) (s : L2.Same H H') : EntsAt H' as es := ⟨r.len, fun i a q h1 h2 => (r.at_ i a q h1 h2).same s⟩
theorem EntsAt.upd {H : Hp} {as : List Addr} {es : List Ent} {D : Addr} {u v : HO} (r : EntsAt H as es) (hD : H D = some u) (hu : ∀ xs, u ≠ .tup xs) : EntsAt (L2.upd H D v) as es := ⟨r.len, fun i a q h1 h2 => (r.at_ i a q h1 h2).upd hD hu⟩
theorem EntsAt.snoc {H : Hp} {as : List Addr} {es : List Ent} {a : Addr} {e : Ent} (r : EntsAt H as es) (ha : EntAt H a e) : EntsAt H (as ++ [a]) (es ++ [e]) := by
  refine ⟨by rw [List.length_append, List.length_append, r.len]; rfl, fun i b y h1 h2 => ?_⟩
  by_cases hi : i < as.length
  · rw [List.getElem?_append_left hi] at h1
    rw [List.getElem?_append_left (by rw [← r.len]; exact hi)] at h2
    exact r.at_ i b y h1 h2
  · rw [List.getElem?_append_right (by omega)] at h1
    rw [List.getElem?_append_right (by rw [← r.len]; omega), ← r.len] at h2
    have e : i - as.length = 0 := by
      have := (List.getElem?_eq_some_iff.mp h1).1
      simp at this
      omega
    rw [e] at h1 h2
    cases h1
    cases h2
    exact ha
theorem goals_len {h : Int} {ns : List Str} {x : Sd} (g : GoodSd h ns x) (mv : Option Str) : (goalsL x mv).length ≤ 4 := by
  cases mv with
  | none => cases x with
    | fin => show ([] : List Str).length ≤ 4; simp
    | chance l => show (l.map (·.2.1)).length ≤ 4; rw [List.length_map]; exact g.2.2.1
    | hand k l => show (l.map (·.2)).length ≤ 4; rw [List.length_map]; exact g.2.2.2.2.1
  | some m =>
    show ((toS x m).toList).length ≤ 4
    cases toS x m with
    | none => simp
    | some t => simp
theorem strsV_at {ws : List Str} {i : Nat} {v : V} (h : (strsV ws)[i]? = some v) : ∃ t, v = .str t ∧ ws[i]? = some t := by
  rw [List.getElem?_map] at h
  cases e : ws[i]? with
  | none => rw [e] at h; cases h
  | some t =>
    rw [e] at h
    exact ⟨t, (Option.some.inj h).symm, rfl⟩
theorem x_g3 {K : PySem.W.Frag} {σ : L2.St} {H : Hp} {T : Addr} {v w u : V} {i j k : Nat} {N : L2.St → Hp → Prop} (ht : SqT K H T [v, w, u]) (h : N (((σ.set i (some v)).set j (some w)).set k (some u)) H) : gTup K 3 (gCons (gName i) (gCons (gName j) (gCons (gName k) gNil))) (.ref T) σ H N :=
  ⟨T, [v, w, u], rfl, ht, rfl, v, [w, u], rfl, w, [u], rfl, u, [], rfl, rfl, h⟩
theorem wipe_set_out {i : Nat} {a : Option V} {σ : L2.St} : ∀ {vs : List Nat}, i ∉ vs → wipe (σ.set i a) vs = (wipe σ vs).set i a
  | [], _ => rfl
  | v :: vs, h => by
    have h1 : i ∉ vs := fun z => h (List.mem_cons_of_mem _ z)
    have h2 : i ≠ v := fun z => h (z ▸ List.mem_cons_self)
    show (wipe (σ.set i a) vs).set v none = ((wipe σ vs).set v none).set i a
    rw [wipe_set_out h1, List.set_comm _ _ h2]
theorem wipe_set {i : Nat} {a : Option V} {σ : L2.St} : ∀ {vs : List Nat}, i ∈ vs → wipe (σ.set i a) vs = wipe σ vs
  | v :: vs, h => by
    show (wipe (σ.set i a) vs).set v none = (wipe σ vs).set v none
    by_cases h1 : i ∈ vs
    · rw [wipe_set h1]
    · have e : i = v := by
        rcases List.mem_cons.mp h with e | h
        · exact e
        · exact absurd h h1
      rw [wipe_set_out h1, e, List.set_set]
theorem wipe_sub {σ : L2.St} {vs : List Nat} : ∀ {us : List Nat}, (∀ u ∈ us, u ∈ vs) → wipe (wipe σ us) vs = wipe σ vs
  | [], _ => rfl
  | u :: us, h => (wipe_set (h u List.mem_cons_self)).trans (wipe_sub fun x hx => h x (List.mem_cons_of_mem _ hx))
theorem wipe3 {σ : L2.St} {vs : List Nat} {i j k : Nat} {a b c : Option V} (hi : i ∈ vs) (hj : j ∈ vs) (hk : k ∈ vs) : wipe ((((wipe σ vs).set i a).set j b).set k c) vs = wipe σ vs :=
  (wipe_set hk).trans ((wipe_set hj).trans ((wipe_set hi).trans (wipe_sub fun _ h => h)))
theorem kind_hand (x : Sd) : decide (kindS x = "hand") = (match x with | .hand _ _ => true | _ => false) := by
  cases x <;> rfl
/-- what is asked of a stand and its entry -/
structure ShowOk (wl : List (Str × Int)) (e0 : Int) (P : List (Str × Ent)) (x : Sd) (z : Str) (en : Ent) : Prop where
  b1 : -1000 ≤ en.fr.1
  b2 : en.fr.1 ≤ 1000
  b3 : 1 ≤ en.fr.2
  b4 : en.fr.2 ≤ 4
  es : Sml e0
  lo : e0 * en.fr.2 < en.fr.1 * 1
  all : ∀ t e, P.lookup t = some e → e.fr = en.fr
  fin : x = .fin → ∃ v, wl.lookup z = some v ∧ Sml v
  mv : ∀ m, en.mv = some m → ∃ k l2 t, x = .hand k l2 ∧ l2.lookup m = some t
  two : ∀ l2, x = .chance l2 → l2.length = 2
  goal : ∀ t ∈ goalsL x en.mv, ∃ e, P.lookup t = some e
theorem behind_at {P : List (Str × Ent)} {ts : List Str} (h : ∀ t ∈ ts, ∃ e, P.lookup t = some e) {i : Nat} {t : Str} {e : Ent} (ht : ts[i]? = some t) (he : P.lookup t = some e) : (behindE P ts)[i]? = some e := by
  induction ts generalizing i with
  | nil => cases ht
  | cons u r ih =>
    obtain ⟨e1, h1⟩ := h u List.mem_cons_self
    have hb : behindE P (u :: r) = e1 :: behindE P r := by
      unfold behindE
      rw [List.filterMap_cons, h1]
    rw [hb]
    cases i with
    | zero =>
      cases ht
      rw [he] at h1
      cases h1
      rfl
    | succ i => exact ih (fun t ht => h t (List.mem_cons_of_mem _ ht)) ht
theorem behind_len {P : List (Str × Ent)} {ts : List Str} (h : ∀ t ∈ ts, ∃ e, P.lookup t = some e) : (behindE P ts).length = ts.length := by
  induction ts with
  | nil => rfl
  | cons u r ih =>
    obtain ⟨e1, h1⟩ := h u List.mem_cons_self
    have hb : behindE P (u :: r) = e1 :: behindE P r := by
      unfold behindE
      rw [List.filterMap_cons, h1]
    rw [hb, List.length_cons, List.length_cons, ih fun t ht => h t (List.mem_cons_of_mem _ ht)]
def spShown (CW C : Addr) : Sp := fun vs H Q _ => ∃ (a wi D dw t : Addr) (h e0 : Int) (st z : Str) (l : List (Str × Sd)) (wl : List (Str × Int)) (P : List (Str × Ent)) (x : Sd) (en : Ent), vs = [.ref a, .ref wi, .str z, .ref D] ∧ WorkAt CW H a h st l ∧ GoodT h l ∧ H wi = some (.ins C dw (wF t e0 true)) ∧ H t = some (.dK (strK V.int wl)) ∧
  PlanAt H D P ∧ l.lookup z = some x ∧ P.lookup z = some en ∧ ShowOk wl e0 P x z en ∧ ∀ H', L2.Same H H' → Q (.bl (shownB wl P x z en)) H'
section
variable {P : Program} {w : World} {K : PySem.W.Frag} {mg : Str → Option Value} {base : Heap} {C CW : Addr}
theorem ok_is_shown {f : Addr} {fd : FuncData} (F : Fun K "is_shown" "is_shown" s_is_shown f fd) (K_Work : Cls K CW) (K_Wish : Cls K C) (N1 : NoAttr K CW "table") (N2 : NoAttr K C "table") (N3 : NoAttr K C "endless") (N4 : NoAttr K C "coming") (Z_all : mg "all" = none)
    (C_less : Cal P w K mg base 1 "less" ["one", "other"] spLess) (C_whole : Cal P w K mg base 1 "whole" ["number"] spWhole) (C_goals : Cal P w K mg base 2 "goals" ["work", "stand", "move"] (spGoals CW)) (C_is_hand_shown : Cal P w K mg base 2 "is_hand_shown" ["wish", "entry", "behind"] (spHandShown C))
    (C_is_chance_shown : Cal P w K mg base 5 "is_chance_shown" ["wish", "entry", "behind", "weights"] (spChanceShown C)) (C_draws_of : Cal P w K mg base 1 "draws_of" ["work", "stand"] (spDrawsOf CW)) : FnOk P w K mg base CX0 6 f fd ["work", "wish", "stand", "thing"] (spShown CW C) := by
  refine F.ok sc_is_shown (fun vs H Q E h => ?_) (fun cdv A outer s H vs Q E hr h => ?_)
  · obtain ⟨_, _, _, _, _, _, _, _, _, _, _, _, _, _, rfl, _⟩ := h
    rfl
  · obtain ⟨a, wi, D, dw, t, h, e0, st, z, l, wl, pl, x, en, rfl, wa, g, hw, ht, hP, hz, hen, ok, q⟩ := h
    obtain ⟨dx, tt, n, e9, h1, hT, _, _⟩ := id wa.ex
    obtain ⟨mm, b, hmm, hb, hx⟩ := hT.at hz
    obtain ⟨m, ea, hm, hea, hE⟩ := hP.at hen
    obtain ⟨fr, he1, hf⟩ := id hE
    have hu := hu_of hr
    obtain ⟨b1, b2, b3, b4, es, lo, all, fin, mv, two, goal⟩ := ok
    have smf : Sml en.fr.1 := ⟨by omega, by omega⟩
    refine ⟨_, (pss_cons (ps_set (i := 4) sc_is_shown.nd rfl (Or.inl rfl) (pe_dget hu (pv 3) (pv 2) (fun _ _ => rfl)))
      (pss_cons (ps_set (i := 5) sc_is_shown.nd rfl (Or.inl rfl) (pe_dget hu (pe_fld (pv 0) rfl) (pv 2) (fun _ _ => rfl)))
      (pss_cons (ps_if (pt_cmpR op_eq (pe_ix ix_tup (pv 5) pe_int (fun _ _ => rfl)) pe_str (nomark _))
      (pss_one (ps_ret (pe_not (pe_cal C_less (hr.mono (by decide)) (by rfl) (pa_cons (pe_cal C_whole (hr.mono (by decide)) (by rfl) (pa_cons (pe_dget hu (pe_fld (pv 1) rfl) (pv 2) (fun _ _ => rfl)) pa_nil)) (pa_cons (pe_ix ix_tup (pv 4) pe_int (fun _ _ => rfl)) pa_nil))))))
      pss_nil)
      (pss_cons (ps_set (i := 6) sc_is_shown.nd rfl (Or.inl rfl) (pe_cal C_whole (hr.mono (by decide)) (by rfl) (pa_cons (pe_fld (pv 1) rfl) pa_nil)))
      (pss_cons (ps_if (PW.pt (pw_and (pt_val (pe_fld (pv 1) rfl)) (pw_and1 (pt_not (pt_val (pe_cal C_less (hr.mono (by decide)) (by rfl) (pa_cons (pv 6) (pa_cons (pe_ix ix_tup (pv 4) pe_int (fun _ _ => rfl)) pa_nil))))))))
      (pss_one (ps_ret pe_bl))
      pss_nil)
      (pss_cons (ps_if (PW.pt (pw_and (pt_not (pt_val (pe_fld (pv 1) rfl))) (pw_and1 (pt_val (pe_cal C_less (hr.mono (by decide)) (by rfl) (pa_cons (pv 6) (pa_cons (pe_ix ix_tup (pv 4) pe_int (fun _ _ => rfl)) pa_nil)))))))
      (pss_one (ps_ret pe_bl))
      pss_nil)
      (pss_cons (ps_set (i := 7) sc_is_shown.nd rfl (Or.inl rfl) (pe_cal C_goals (hr.mono (by decide)) (by rfl) (pa_cons (pv 0) (pa_cons (pv 2) (pa_cons (pe_ix ix_tup (pv 4) pe_int (fun _ _ => rfl)) pa_nil)))))
      (pss_cons (ps_if (pt_not (pt_val (pe_callB (cr_all rfl) (by rfl) Z_all (by decide +kernel) (pa_cons (pe_lc (own := [("to", 9)]) (g := gName 9) (tt := tYes) (by rfl) sc_is_shown.nd (pi_list (pv 7)) (blkOk_by (own := [("to", 9)]) (N := N_is_shown) (sc := defScope s_is_shown) (by decide +kernel)) (fun _ _ _ _ _ => (pg_name (i := 9) sc_is_shown.nd rfl (Or.inl rfl))) (fun _ _ _ _ _ => pts_nil) (fun _ _ _ _ _ => by exact (pe_cmp (pc_din hu (pv 9) (pv 3))))) pa_nil))))
      (pss_one (ps_ret pe_bl))
      pss_nil)
      (pss_cons (ps_setLc (i := 8) (own := [("to", 9)]) (g := gName 9) (tt := tYes) (by rfl) sc_is_shown.nd rfl rfl (sw_true rfl rfl rfl (by decide +kernel)) (pi_list (pv 7)) (blkOk_by (own := [("to", 9)]) (N := N_is_shown) (sc := defScope s_is_shown) (by decide +kernel)) (fun _ _ _ _ _ => (pg_name (i := 9) sc_is_shown.nd rfl (Or.inl rfl))) (fun _ _ _ _ _ => pts_nil) (fun _ _ _ _ _ => by exact (pe_dget hu (pv 3) (pv 9) (fun _ _ => rfl))))
      (pss_cons (ps_if (pt_cmpR op_eq (pe_ix ix_tup (pv 5) pe_int (fun _ _ => rfl)) pe_str (nomark _))
      (pss_one (ps_ret (pe_cal C_is_hand_shown (hr.mono (by decide)) (by rfl) (pa_cons (pv 1) (pa_cons (pv 4) (pa_cons (pv 8) pa_nil))))))
      pss_nil)
      (pss_one (ps_ret (pe_cal C_is_chance_shown (hr.mono (by decide)) (by rfl) (pa_cons (pv 1) (pa_cons (pv 4) (pa_cons (pv 8) (pa_cons (pe_lc (own := [("draw", 10), ("to", 9), ("weight", 11)]) (g := gTup K 3 (gCons (gName 10) (gCons (gName 9) (gCons (gName 11) gNil)))) (tt := tYes) (by rfl) sc_is_shown.nd (pi_list (pe_cal C_draws_of (hr.mono (by decide)) (by rfl) (pa_cons (pv 0) (pa_cons (pv 2) pa_nil)))) (blkOk_by (own := [("draw", 10), ("to", 9), ("weight", 11)]) (N := N_is_shown) (sc := defScope s_is_shown) (by decide +kernel)) (fun _ _ _ _ _ => by exact (pg_tupK (K := K) rfl (pgs_cons (pg_name (i := 10) sc_is_shown.nd rfl (Or.inl rfl)) (pgs_cons (pg_name (i := 9) sc_is_shown.nd rfl (Or.inl rfl)) (pgs_cons (pg_name (i := 11) sc_is_shown.nd rfl (Or.inl rfl)) pgs_nil))))) (fun _ _ _ _ _ => pts_nil) (fun _ _ _ _ _ => by exact (pv 11))) pa_nil))))))))))))))))), ?_⟩
    walk_at "go"
    refine x_getL (l := m) hm hea ?_
    walk_at "go"
    refine x_fld K_Work N1 h1 wkF_table ?_
    walk_at "go"
    refine x_getL (.inl hmm) hb ?_
    obtain ⟨xs, hx1, hx2⟩ := sd_tup hx
    walk_at "go"
    refine x_ixt 0 (SqT.of hx1) rfl hx2 ?_
    walk_at "go"
    rw [kind_fin]
    refine x_ite (fun hfin => ?_) (fun hfin => ?_)
    · have ex : x = .fin := by
        cases x with
        | fin => rfl
        | chance _ => cases hfin
        | hand _ _ => cases hfin
      subst ex
      obtain ⟨v, hv, hv2⟩ := fin rfl
      walk_at "go"
      refine x_fld K_Wish N2 hw (wF_table _ _ _) ?_
      walk_at "go"
      refine x_getL (l := wl) (.inl ht) hv ?_
      walk_at "go"
      refine ⟨v, rfl, fun H1 p s1 hp hpf => ?_⟩
      walk_at "go"
      refine x_ixt 0 (SqT.of (s1 _ _ he1)) rfl rfl ?_
      walk_at "go"
      refine ⟨p, fr, (v, 1), en.fr, rfl, hpf, s1 _ _ hf, hv2, ⟨by omega, by omega⟩, ?_⟩
      walk_at "go"
      have e : shownB wl pl .fin z en = !decide (v * en.fr.2 < en.fr.1 * 1) := by
        show (!decide (((wl.lookup z).getD 0) * en.fr.2 < en.fr.1 * 1)) = _
        rw [hv]
        rfl
      rw [← e]
      exact q H1 s1
    · walk_at "go"
      refine x_fld K_Wish N3 hw (wF_endless _ _ _) ?_
      walk_at "go"
      refine ⟨e0, rfl, fun H1 p s1 hp hpf => ?_⟩
      walk_at "go"
      refine x_fld K_Wish N4 (s1 _ _ hw) (wF_coming _ _ _) ?_
      walk_at "go"
      refine x_ixt 0 (SqT.of (s1 _ _ he1)) rfl rfl ?_
      walk_at "go"
      refine ⟨p, fr, (e0, 1), en.fr, rfl, hpf, s1 _ _ hf, es, ⟨by omega, by omega⟩, ?_⟩
      walk_at "go"
      refine x_nyes lo ?_
      walk_at "go"
      refine x_fld K_Wish N4 (s1 _ _ hw) (wF_coming _ _ _) ?_
      walk_at "go"
      refine x_ixt 1 (SqT.of (s1 _ _ he1)) rfl rfl ?_
      refine ⟨a, h, st, z, l, x, en.mv, rfl, wa.same s1, hz, g.sd z x hz, mv, fun H2 pb s2 hpb hpl => ?_⟩
      have s12 := s1.trans s2
      obtain ⟨mp, hmp, hkp, hap⟩ := hP.ex
      have glen := goals_len (g.sd z x hz) en.mv
      have key : ∀ (i : Nat) (t : Str), (goalsL x en.mv)[i]? = some t → ∃ e aa, pl.lookup t = some e ∧ mp.lookup t = some aa ∧ EntAt H aa e := by
        intro i t ht
        obtain ⟨e, he⟩ := goal t (List.mem_of_getElem? ht)
        have hzk : t ∈ mp.map (·.1) := by
          rw [hkp]
          exact List.mem_map.mpr ⟨_, lookup_mem he, rfl⟩
        obtain ⟨aa, haa⟩ := lookup_isSome hzk
        obtain ⟨y, hy, r⟩ := hap _ _ (lookup_mem haa)
        rw [he] at hy
        cases hy
        exact ⟨e, aa, he, haa, r⟩
      walk_at "go"
      refine runL (SqL.of hpl) ?_
      intro D1 hD1
      refine lcL (xs := strsV (goalsL x en.mv)) (fun i H' => L2.Same H2 H' ∧ H' D1 = some (.lst ((List.replicate i true).map V.bl))) ⟨same_new hD1, upd_same⟩ (fun i H' _ h => SqL.of (h.1 _ _ hpl)) ?_ ?_
      · rintro i v H3 hv ⟨s3, hE3⟩
        obtain ⟨t, rfl, ht⟩ := strsV_at hv
        obtain ⟨e, aa, k1, k2, k3⟩ := key i t ht
        have hi : i < (goalsL x en.mv).length := (List.getElem?_eq_some_iff.mp ht).1
        walk_at "go"
        refine ⟨rfl, ?_⟩
        walk_at "go"
        refine x_inD (l := mp) (same_rd (s12.trans s3) hmp) ?_
        rw [k2]
        refine ⟨_, hE3, sz_lt (by rw [List.length_map, List.length_replicate]; omega), same_upd s3 hD1, ?_⟩
        rw [upd_same, List.replicate_succ', List.map_append]
        rfl
      · rintro H3 ⟨s3, hE3⟩
        walk_at "go"
        refine ⟨D1, _, rfl, SqL.of hE3, ?_⟩
        rw [show (List.replicate (strsV (goalsL x en.mv)).length true).all id = true by simp]
        walk_at "go"
        have s13 := s12.trans s3
        have hpl3 := s3 _ _ hpl
        refine runL (SqL.of hpl3) ?_
        intro D2 hD2
        refine lcL (xs := strsV (goalsL x en.mv)) (fun i H' => L2.Same H3 H' ∧ ∃ as, H' D2 = some (.lst (as.map V.ref)) ∧ EntsAt H' as (behindE pl ((goalsL x en.mv).take i))) ⟨same_new hD2, [], upd_same, ⟨rfl, fun i a q h => by cases h⟩⟩ (fun i H' _ h => SqL.of (h.1 _ _ hpl3)) ?_ ?_
        · rintro i v H4 hv ⟨s4, as, hE4, hA⟩
          obtain ⟨t, rfl, ht⟩ := strsV_at hv
          obtain ⟨e, aa, k1, k2, k3⟩ := key i t ht
          have hi : i < (goalsL x en.mv).length := (List.getElem?_eq_some_iff.mp ht).1
          walk_at "go"
          refine ⟨rfl, ?_⟩
          walk_at "go"
          refine x_getL (l := mp) (same_rd (s13.trans s4) hmp) k2 ?_
          have hlen : as.length = i := by
            rw [hA.len, behind_len fun t ht => goal t (List.mem_of_mem_take ht), List.length_take]
            omega
          refine ⟨_, hE4, sz_lt (by rw [List.length_map]; omega), same_upd s4 hD2, as ++ [aa], by rw [upd_same]; simp, ?_⟩
          rw [behindE_succ ht k1]
          exact (hA.upd hE4 (fun xs e => by cases e)).snoc ((k3.same (s13.trans s4)).upd hE4 (fun xs e => by cases e))
        · rintro H4 ⟨s4, as, hE4, hA⟩
          rw [List.length_map, List.take_length] at hA
          have s14 := s13.trans s4
          have allfr : ∀ y ∈ behindE pl (goalsL x en.mv), y.fr = en.fr := by
            intro y hy
            obtain ⟨t, ht, he⟩ := List.mem_filterMap.mp hy
            exact all t y he
          walk_at "go"
          refine x_ixt 0 (SqT.of (s14 _ _ hx1)) rfl hx2 ?_
          walk_at "go"
          rw [kind_hand]
          cases x with
          | fin => cases hfin
          | hand k2 l2 =>
            refine x_T ?_
            walk_at "go"
            exact ⟨wi, ea, D2, dw, t, e0, true, en, as, _, rfl, s14 _ _ hw, hE.same s14, smf, hE4, hA, allfr, q H4 s14⟩
          | chance l2 =>
            refine x_F ?_
            walk_at "go"
            have gs := g.sd z _ hz
            obtain ⟨g1, g2, g3, g4⟩ := id gs
            have hl2 := two l2 rfl
            refine ⟨a, h, st, z, l, l2, rfl, wa.same s14, hz, gs, fun H5 pw ws s5 hpw hpw2 hW => ?_⟩
            have s15 := s14.trans s5
            walk_at "go"
            refine runL (SqL.of hpw2) ?_
            intro D3 hD3
            refine lcL (xs := ws.map V.ref) (fun i H' => L2.Same H5 H' ∧ H' D3 = some (.lst (((l2.take i).map (·.2.2)).map V.int))) ⟨same_new hD3, upd_same⟩ (fun i H' _ h => SqL.of (h.1 _ _ hpw2)) ?_ ?_
            · rintro i v H6 hv ⟨s6, hE6⟩
              rw [List.getElem?_map] at hv
              cases hwi : ws[i]? with
              | none => rw [hwi] at hv; cases hv
              | some wa2 =>
                rw [hwi] at hv
                have ev : V.ref wa2 = v := Option.some.inj hv
                subst ev
                have hi : i < ws.length := (List.getElem?_eq_some_iff.mp hwi).1
                have hli : l2[i]? = some (l2[i]'(by rw [← hW.len]; exact hi)) := List.getElem?_eq_getElem _
                generalize (l2[i]'(by rw [← hW.len]; exact hi)) = qq at hli
                have hq := hW.at_ i wa2 qq hwi hli
                refine x_g3 (SqT.of (s6 _ _ hq)) ?_
                refine ⟨wipe3 (by decide) (by decide) (by decide), ?_⟩
                walk_at "go"
                have := hW.len
                refine ⟨_, hE6, sz_lt (by rw [List.length_map, List.length_map, List.length_take]; omega), same_upd s6 hD3, ?_⟩
                rw [upd_same, take_succ_get hli]
                simp
            · rintro H6 ⟨s6, hE6⟩
              rw [List.length_map, hW.len, List.take_length] at hE6
              have s16 := s15.trans s6
              have emv : en.mv = none := by
                cases e : en.mv with
                | none => rfl
                | some m =>
                  obtain ⟨_, _, _, h9, _⟩ := mv m e
                  cases h9
              have egl : goalsL (.chance l2) en.mv = l2.map (·.2.1) := by rw [emv]; rfl
              obtain ⟨d1, d2, rfl⟩ : ∃ d1 d2, l2 = [d1, d2] := by
                match l2, hl2 with
                | [d1, d2], _ => exact ⟨d1, d2, rfl⟩
              obtain ⟨x1, hx1⟩ := goal d1.2.1 (by rw [egl]; simp)
              obtain ⟨x2, hx2⟩ := goal d2.2.1 (by rw [egl]; simp)
              have eb : behindE pl (goalsL (.chance [d1, d2]) en.mv) = [x1, x2] := by
                rw [egl]
                show behindE pl [d1.2.1, d2.2.1] = _
                unfold behindE
                rw [List.filterMap_cons, hx1, List.filterMap_cons, hx2]
                rfl
              rw [eb] at hA allfr
              obtain ⟨a1, a2, rfl⟩ : ∃ a1 a2, as = [a1, a2] := by
                have := hA.len
                match as, this with
                | [a1, a2], _ => exact ⟨a1, a2, rfl⟩
              have w1 := g4 d1 (by simp)
              have w2 := g4 d2 (by simp)
              have hA6 := (hA.same s5).same s6
              have s46 := s5.trans s6
              walk_at "go"
              refine ⟨wi, ea, D2, D3, dw, t, a1, a2, e0, d1.2.2, d2.2.2, true, en, x1, x2, rfl, s16 _ _ hw, hE.same s16, b1, b2, b3, b4, s46 _ _ hE4, hE6, hA6.at_ 0 a1 x1 rfl rfl, hA6.at_ 1 a2 x2 rfl rfl, allfr x1 (by simp), allfr x2 (by simp),
                w1.2.2.1, Int.le_trans w1.2.2.2 (by decide), w2.2.2.1, Int.le_trans w2.2.2.2 (by decide), fun H7 s7 => ?_⟩
              have e9 : shownB wl pl (.chance [d1, d2]) z en = chanceB true en.rk [x1, x2] := by
                show chanceB true en.rk (behindE pl (goalsL (.chance [d1, d2]) en.mv)) = _
                rw [eb]
              rw [← e9]
              exact q H7 (s16.trans s7)
end
/-! ### a drawn world -/
/-- a dict that is being built: what stands in it does not lean on the dict itself -/
structure DictW {α : Type} (R : Hp → Addr → α → Prop) (H : Hp) (d : Addr) (l : List (Str × α)) : Prop where
  ex : ∃ m : List (Str × Addr), H d = some (.dK (strK V.ref m)) ∧ m.map (·.1) = l.map (·.1) ∧ ∀ z a, (z, a) ∈ m → ∃ x, l.lookup z = some x ∧ R (wo H d) a x
def Mono {α : Type} (R : Hp → Addr → α → Prop) : Prop := ∀ H H' a x, L2.Same H H' → R H a x → R H' a x
theorem monoP : Mono PairAt := fun _ _ _ _ s h => s _ _ h
theorem monoS : Mono SdAt := fun _ _ _ _ s h => h.same s
section
variable {α : Type} {R : Hp → Addr → α → Prop} {H H' : Hp} {d p : Addr} {l : List (Str × α)}
theorem DictW.of (M : Mono R) (h : DictW R H d l) : DictOf R H d l := by
  obtain ⟨m, h1, h2, h3⟩ := h.ex
  refine ⟨m, h1, h2, fun z a hza => ?_⟩
  obtain ⟨x, e, r⟩ := h3 z a hza
  exact ⟨x, e, M _ _ _ _ wo_same r⟩
theorem DictW.same (M : Mono R) (h : DictW R H d l) (s : L2.Same H H') : DictW R H' d l := by
  obtain ⟨m, h1, h2, h3⟩ := h.ex
  refine ⟨m, s _ _ h1, h2, fun z a hza => ?_⟩
  obtain ⟨x, e, r⟩ := h3 z a hza
  exact ⟨x, e, M _ _ _ _ (wo_mono s) r⟩
theorem DictW.nil (h : H d = some (.dK [])) : DictW R H d [] := ⟨[], h, rfl, fun z a hza => by cases hza⟩
theorem DictW.put {m : List (Str × Addr)} (h2 : m.map (·.1) = l.map (·.1)) (h3 : ∀ z a, (z, a) ∈ m → ∃ x, l.lookup z = some x ∧ R (wo H d) a x) {z : Str} {x : α} (hp : R (wo H d) p x) :
    DictW R (upd H d (.dK (strK V.ref (putL m z p)))) d (putL l z x) := by
  refine ⟨putL m z p, upd_same, putL_keys2 h2 z x p, fun y a hya => ?_⟩
  rw [wo_upd, lookup_putL]
  rcases putL_mem hya with e | ⟨hya, hn⟩
  · injection e with e1 e2
    subst e1 e2
    rw [if_pos rfl]
    exact ⟨x, rfl, hp⟩
  · rw [if_neg hn]
    exact h3 y a hya
end
theorem none_of_but {H H' : Hp} {p a : Addr} (b : But p H H') (h : H' a = none) (n : a ≠ p) : H a = none := by
  cases e : H a with
  | none => rfl
  | some o => rw [b a o e n] at h; cases h
theorem sd_frz {H : Hp} {D a : Addr} {o : Obj} {v u : HO} {x : Sd} {h : Int} {ns : List Str} (hd : H D = some (.frz o v)) (hx : SdAt H a x) (hg : GoodSd h ns x) : SdAt (upd H D u) a x := by
  refine (sd_wo (D := D) (fun xs e => ?_) (fun l hl e => ?_) (fun l hl hD => ?_) hx hg).same (same_wo (L2.Same.refl _))
  · rw [hd] at e
    cases e
  · rw [hd] at e
    cases e
  · obtain ⟨m2, g1, _⟩ := hD.ex
    rw [hd] at g1
    cases g1
/-! ### a copy of the stands -/
def spCopyL : Sp := fun vs H Q _ => ∃ (D : Addr) (l : List (Str × Sd)) (h : Int) (ns : List Str), vs = [.ref D] ∧ DictOf SdAt H D l ∧ (l.map (·.1)).Nodup ∧ l.length ≤ 200 ∧ (∀ z x, l.lookup z = some x → GoodSd h ns x) ∧
  ∀ H' F, L2.Same H H' → H F = none → DictOf SdAt H' F l → Q (.ref F) H'
section
variable {P : Program} {w : World} {K : PySem.W.Frag} {mg : Str → Option Value} {base : Heap} {CW : Addr}
theorem ok_l_copy {f : Addr} {fd : FuncData} (F : Fun K "_law_copy" "_law_copy" s_l_copy f fd) (Z_dict : mg "dict" = none) : FnOk P w K mg base CX0 1 f fd ["_law_stands"] spCopyL := by
  refine F.ok sc_l_copy (fun vs H Q E h => ?_) (fun cdv A outer s H vs Q E hr h => ?_)
  · obtain ⟨_, _, _, _, rfl, _⟩ := h
    rfl
  · obtain ⟨D, l, h, ns, rfl, hT, hnd, hl, hg, k⟩ := h
    have hu := hu_of hr
    obtain ⟨m, hd, hk, hm⟩ := id hT.ex
    refine ⟨_, (pss_cons (ps_set (i := 1) sc_l_copy.nd rfl (Or.inl rfl) pe_dnewK)
      (pss_cons (ps_lock (ps_for PassesOwn.never rfl (pi_keys (pv 0)) (pg_name (i := 2) sc_l_copy.nd rfl (Or.inl rfl))
      (pss_cons (ps_set (i := 3) sc_l_copy.nd rfl (Or.inl rfl) (pe_dget hu (pv 0) (pv 2) (fun _ _ => rfl)))
      (pss_one (ps_if (pt_cmpR op_eq (pe_ix ix_tup (pv 3) pe_int (fun _ _ => rfl)) pe_str (nomark _))
      (pss_one (ps_dput hu (pv 1) (pv 2) (pe_tup (pa_cons pe_str (pa_cons (pe_ix ix_tup (pv 3) pe_int (fun _ _ => rfl)) (pa_cons (pe_callTy call_dictA (by rfl) Z_dict (by decide +kernel) (pa_cons (pe_ix ix_tup (pv 3) pe_int (fun _ _ => rfl)) pa_nil)) pa_nil)))) rfl))
      (pss_one (ps_if (pt_cmpR op_eq (pe_ix ix_tup (pv 3) pe_int (fun _ _ => rfl)) pe_str (nomark _))
      (pss_one (ps_dput hu (pv 1) (pv 2) (pe_tup (pa_cons pe_str (pa_cons (pe_callTy call_dictA (by rfl) Z_dict (by decide +kernel) (pa_cons (pe_ix ix_tup (pv 3) pe_int (fun _ _ => rfl)) pa_nil)) pa_nil))) rfl))
      (pss_one (ps_dput hu (pv 1) (pv 2) (pe_tup (pa_cons pe_str pa_nil)) rfl)))))))))
      (pss_one (ps_ret (pv 1))))), ?_⟩
    walk_at "go"
    intro F0 hF
    have nDF : D ≠ F0 := ne_of_none hd hF
    have hd1 : (upd H F0 (.dK [])) D = some (.dK (strK V.ref m)) := by rw [upd_ne nDF]; exact hd
    walk_at "go"
    refine x_lock hd1 trivial fun od => ?_
    have sB : L2.Same (wo H D) (upd (upd H F0 (.dK [])) D (.frz od (.dK (strK V.ref m)))) := fun b o e => by
      obtain ⟨e1, n1⟩ := wo_some e
      rw [upd_ne n1, upd_ne (ne_of_none e1 hF)]
      exact e1
    have hB : (upd (upd H F0 (.dK [])) D (.frz od (.dK (strK V.ref m)))) D = some (.frz od (.dK (strK V.ref m))) := upd_same
    have hFB : (upd (upd H F0 (.dK [])) D (.frz od (.dK (strK V.ref m)))) F0 = some (.dK []) := by rw [upd_ne nDF.symm, upd_same]
    generalize upd (upd H F0 (.dK [])) D (.frz od (.dK (strK V.ref m))) = HB at sB hB hFB ⊢
    walk_at "go"
    refine lpK (kvs := strK V.ref m) (fun i σ H' => ∃ v2 v3 l', σ = [some (.ref D), some (.ref F0), v2, v3] ∧ L2.Same (wo HB F0) H' ∧ DictW SdAt H' F0 l' ∧ l' = l.take i) hB ?_ ?_ ?_ ?_
    · exact ⟨_, _, [], rfl, wo_same, .nil hFB, by simp⟩
    · exact fun i σ H' _ ⟨_, _, _, _, s1, _⟩ => s1 _ _ (by rw [wo_ne nDF]; exact hB)
    · rintro i k0 v0 σ H3 hi ⟨v2, v3, l', rfl, s3, hW, el⟩
      obtain ⟨z, a, rfl, rfl, hla⟩ := strK_at hi
      have hza := List.mem_of_getElem? hla
      obtain ⟨x, hx, hxa⟩ := hm _ _ hza
      have gx := hg _ _ hx
      have nd2 : (m.map (·.1)).Nodup := by rw [hk]; exact hnd
      have hD3 : H3 D = some (.frz od (.dK (strK V.ref m))) := s3 _ _ (by rw [wo_ne nDF]; exact hB)
      have s30 : L2.Same (wo H D) H3 := fun b o e => by
        have e1 := (wo_some e).1
        exact s3 _ _ (by rw [wo_ne (ne_of_none e1 hF)]; exact sB _ _ e)
      have hx0 : SdAt (wo H D) a x := sd_woT hd (fun y c hyc => by
        obtain ⟨v, _, hv⟩ := hm y c hyc
        exact ⟨v, hv⟩) hxa gx
      have hx3 := hx0.same s30
      have hz : (l.map (·.1))[i]? = some z := by rw [← hk, List.getElem?_map, hla]; rfl
      have hzl : l[i]? = some (z, x) := by
        rw [List.getElem?_map] at hz
        cases e2 : l[i]? with
        | none => rw [e2] at hz; cases hz
        | some q2 =>
          rw [e2] at hz
          have e3 : q2.1 = z := Option.some.inj hz
          have e4 := lookup_of hnd (z := q2.1) (x := q2.2) (List.mem_of_getElem? e2)
          rw [e3, hx] at e4
          have e5 := Option.some.inj e4
          rw [← e3, e5]
      have hzt : z ∉ l'.map (·.1) := fun hmz => by
        rw [el, List.map_take] at hmz
        obtain ⟨j, hj, he⟩ := List.getElem_of_mem hmz
        have hj2 : j < i := by simp at hj; omega
        have h5 : (l.map (·.1))[j]? = some z := by
          rw [List.getElem_take] at he
          rw [List.getElem?_eq_getElem (by simp at hj ⊢; omega), he]
        have := L2.nd_ix hnd h5 hz
        omega
      have ll : l'.length ≤ 200 := by rw [el, List.length_take]; omega
      have fin : ∀ (H4 : Hp) (c : Addr) (v2 v3 : Option V) (N : L2.St → Hp → Prop), L2.Same H3 H4 → SdAt H4 c x →
          (∀ l' H5, L2.Same (wo HB F0) H5 → DictW SdAt H5 F0 l' → l' = l.take (i + 1) → N [some (.ref D), some (.ref F0), v2, v3] H5) → rDputA (.ref F0) (.str z) (.ref c) H4 fun H5 => N [some (.ref D), some (.ref F0), v2, v3] H5 := by
        intro H4 c v2 v3 N s4 hc hN
        obtain ⟨m', m1, m2, m3⟩ := (hW.same monoS s4).ex
        have hml : m'.length = l'.length := by
          have := congrArg List.length m2
          rwa [List.length_map, List.length_map] at this
        refine x_putL (l := m') (x := c) m1 (by omega) rfl ?_
        refine hN (putL l' z x) _ (same_upd (s3.trans s4) wo_at) (DictW.put m2 m3 (sd_woT m1 (fun y e hye => ?_) hc gx)) ?_
        · obtain ⟨v, _, hv⟩ := m3 y e hye
          exact ⟨v, hv.same wo_same⟩
        · rw [putL_new x hzt, take_succ_get hzl, el]
      walk_at "go"
      refine x_getL (l := m) (.inr ⟨od, hD3⟩) (lookup_of nd2 hza) ?_
      walk_at "go"
      cases x with
      | fin =>
        have ha3 : H3 a = some (.tup [.str "end"]) := hx3
        refine x_ixt 0 (SqT.of ha3) rfl rfl ?_
        walk_at "go"
        refine x_no (by decide +kernel) ?_
        walk_at "go"
        refine x_ixt 0 (SqT.of ha3) rfl rfl ?_
        walk_at "go"
        refine x_no (by decide +kernel) ?_
        walk_at "go"
        refine ⟨by decide, fun c hc => ?_⟩
        walk_at "go"
        exact fin _ c _ _ (fun σ H' => ∃ v2 v3 l', σ = [some (.ref D), some (.ref F0), v2, v3] ∧ L2.Same (wo HB F0) H' ∧ DictW SdAt H' F0 l' ∧ l' = l.take (i + 1)) (same_new hc) (show upd H3 c _ c = _ from upd_same) fun l' H5 g1 g2 g3 => ⟨_, _, l', rfl, g1, g2, g3⟩
      | chance l2 =>
        obtain ⟨d2, ha3, hD2⟩ := hx3
        refine x_ixt 0 (SqT.of ha3) rfl rfl ?_
        walk_at "go"
        refine x_no (by decide +kernel) ?_
        walk_at "go"
        refine x_ixt 0 (SqT.of ha3) rfl rfl ?_
        walk_at "go"
        refine x_yes rfl ?_
        walk_at "go"
        refine x_ixt 1 (SqT.of ha3) rfl rfl ?_
        walk_at "go"
        obtain ⟨m2, g1, g2, g3⟩ := hD2.ex
        refine x_dict (.inl g1) fun c hc => ?_
        walk_at "go"
        refine ⟨sz_le (by simp), fun t ht => ?_⟩
        have nct : c ≠ t := ne_of_none upd_same ht
        have ht3 : H3 t = none := by rw [upd_ne nct.symm] at ht; exact ht
        have s34 : L2.Same H3 (upd (upd H3 c (.dK (strK V.ref m2))) t (.tup [.str "chance", .ref c])) := (same_new hc).trans (same_new ht)
        walk_at "go"
        exact fin _ t _ _ (fun σ H' => ∃ v2 v3 l', σ = [some (.ref D), some (.ref F0), v2, v3] ∧ L2.Same (wo HB F0) H' ∧ DictW SdAt H' F0 l' ∧ l' = l.take (i + 1)) s34 ⟨c, upd_same, ⟨m2, by rw [upd_ne nct, upd_same], g2, fun y e hye => by
          obtain ⟨v, hv, hv2⟩ := g3 y e hye
          exact ⟨v, hv, s34 _ _ hv2⟩⟩⟩ fun l' H5 g1 g2 g3 => ⟨_, _, l', rfl, g1, g2, g3⟩
      | hand k2 l2 =>
        obtain ⟨d2, ha3, hD2⟩ := hx3
        refine x_ixt 0 (SqT.of ha3) rfl rfl ?_
        walk_at "go"
        refine x_yes rfl ?_
        walk_at "go"
        refine x_ixt 1 (SqT.of ha3) rfl rfl ?_
        walk_at "go"
        refine x_ixt 2 (SqT.of ha3) rfl rfl ?_
        walk_at "go"
        refine x_dict (.inl hD2) fun c hc => ?_
        walk_at "go"
        refine ⟨sz_le (by simp), fun t ht => ?_⟩
        have nct : c ≠ t := ne_of_none upd_same ht
        have s34 : L2.Same H3 (upd (upd H3 c (.dK (strK V.str l2))) t (.tup [.str "hand", .int k2, .ref c])) := (same_new hc).trans (same_new ht)
        walk_at "go"
        exact fin _ t _ _ (fun σ H' => ∃ v2 v3 l', σ = [some (.ref D), some (.ref F0), v2, v3] ∧ L2.Same (wo HB F0) H' ∧ DictW SdAt H' F0 l' ∧ l' = l.take (i + 1)) s34 ⟨c, upd_same, by rw [upd_ne nct, upd_same]⟩ fun l' H5 g1 g2 g3 => ⟨_, _, l', rfl, g1, g2, g3⟩
    · rintro σ H3 ⟨v2, v3, l', rfl, s3, hW, el⟩
      have hkl : (strK V.ref m).length = l.length := by
        rw [List.length_map]
        have := congrArg List.length hk
        rwa [List.length_map, List.length_map] at this
      rw [hkl, List.take_length] at el
      subst el
      have hD3 : H3 D = some (.frz od (.dK (strK V.ref m))) := s3 _ _ (by rw [wo_ne nDF]; exact hB)
      refine ⟨hD3, ?_⟩
      walk_at "go"
      obtain ⟨m', m1, m2, m3⟩ := hW.ex
      refine k _ F0 (fun b o e => ?_) hF ⟨m', by rw [upd_ne nDF.symm]; exact m1, m2, fun y e hye => ?_⟩
      · by_cases hb : b = D
        · subst hb
          rw [hd] at e
          rw [upd_same, e]
        · rw [upd_ne hb]
          exact s3 _ _ (by rw [wo_ne (ne_of_none e hF)]; exact sB _ _ (by rw [wo_ne hb]; exact e))
      · obtain ⟨v, hv, hv2⟩ := m3 y e hye
        exact ⟨v, hv, sd_frz hD3 (hv2.same wo_same) (hg y v hv)⟩
end
/-! ### the law's mover -/
theorem x_asgT {te : TE} {K : PySem.W.Frag} {k : Nat} {gs : TGs} {σ : L2.St} {H : Hp} {n : L2.St → Hp → Prop} {r : VK} {b c : L2.St → Hp → Prop} (h : te σ H fun v H1 => gTup K k gs v σ H1 n) : tAsg te (gTup K k gs) ⟨n, r, b, c⟩ σ H := h
def spMoverL : Sp := fun vs H Q _ => ∃ (D : Addr) (z : Str) (l : List (Str × Sd)) (x : Sd), vs = [.ref D, .str z] ∧ DictOf SdAt H D l ∧ l.lookup z = some x ∧ Q (moverV x) H
section
variable {P : Program} {w : World} {K : PySem.W.Frag} {mg : Str → Option Value} {base : Heap} {CW : Addr}
theorem ok_l_mover {f : Addr} {fd : FuncData} (F : Fun K "_law_mover" "_law_mover" s_l_mover f fd) : FnOk P w K mg base CX0 1 f fd ["_law_stands", "_law_name"] spMoverL := by
  refine F.ok sc_l_mover (fun vs H Q E h => ?_) (fun cdv A outer s H vs Q E hr h => ?_)
  · obtain ⟨_, _, _, _, rfl, _⟩ := h
    rfl
  · obtain ⟨D, z, l, x, rfl, hT, hz, q⟩ := h
    have hu := hu_of hr
    obtain ⟨m, b, hm, hb, hx⟩ := hT.at hz
    refine ⟨_, (pss_cons (ps_if (pt_cmpR op_eq (pe_ix ix_tup (pe_dget hu (pv 0) (pv 1) (fun _ _ => rfl)) pe_int (fun _ _ => rfl)) pe_str (nomark _))
      (pss_one (ps_ret (pe_ix ix_tup (pe_dget hu (pv 0) (pv 1) (fun _ _ => rfl)) pe_int (fun _ _ => rfl))))
      pss_nil)
      (pss_one (ps_ret pe_non))), ?_⟩
    walk_at "go"
    refine x_getL (.inl hm) hb ?_
    walk_at "go"
    cases x with
    | fin =>
      have hb1 : H b = some (.tup [.str "end"]) := hx
      refine x_ixt 0 (SqT.of hb1) rfl rfl ?_
      walk_at "go"
      refine x_no (by decide +kernel) ?_
      walk_at "go"
      exact q
    | chance l2 =>
      obtain ⟨d2, hb1, _⟩ := hx
      refine x_ixt 0 (SqT.of hb1) rfl rfl ?_
      walk_at "go"
      refine x_no (by decide +kernel) ?_
      walk_at "go"
      exact q
    | hand k2 l2 =>
      obtain ⟨d2, hb1, _⟩ := hx
      refine x_ixt 0 (SqT.of hb1) rfl rfl ?_
      walk_at "go"
      refine x_yes rfl ?_
      walk_at "go"
      refine x_getL (.inl hm) hb ?_
      walk_at "go"
      refine x_ixt 1 (SqT.of hb1) rfl rfl ?_
      exact q
end
/-! ### the law's fractions -/
section
variable {P : Program} {w : World} {K : PySem.W.Frag} {mg : Str → Option Value} {base : Heap}
theorem ok_l_gcd {f : Addr} {fd : FuncData} (F : Fun K "_law_gcd" "_law_gcd" s_l_gcd f fd) (Z_int : mg "int" = none) : FnOk P w K mg base CX0 1 f fd ["_law_one", "_law_other"] spGcd := by
  refine F.ok sc_l_gcd (fun vs H Q E h => ?_) (fun cdv A outer s H vs Q E hr h => ?_)
  · obtain ⟨_, _, rfl, _⟩ := h
    rfl
  · obtain ⟨a, b, rfl, hb, q⟩ := h
    refine ⟨_, (pss_cons (ps_while PassesOwn.never (pt_cmpR op_gt (pv 1) pe_int (nomark _))
      (pss_cons (ps_set (i := 2) sc_l_gcd.nd rfl (Or.inl rfl) (pv 1))
      (pss_cons (ps_set (i := 1) sc_l_gcd.nd rfl (Or.inl rfl) (pe_op op_mod (pe_callTy call_intA (by rfl) Z_int (by decide +kernel) (pa_cons (pv 0) pa_nil)) (pv 1)))
      (pss_one (ps_set (i := 0) sc_l_gcd.nd rfl (Or.inl rfl) (pv 2))))))
      (pss_one (ps_ret (pv 0)))), ?_⟩
    walk_at "go"
    refine lpWg (fun m σ H' => ∃ x y : Nat, ∃ v, σ = [some (.int x), some (.int y), v] ∧ H' = H ∧ y ≤ b ∧ y ≤ m ∧ Nat.gcd x y = Nat.gcd a b) (m := b) ⟨a, b, _, rfl, rfl, Nat.le_refl _, Nat.le_refl _, rfl⟩ ?_
    rintro m σ H' ⟨x, y, v, rfl, rfl, hy, hym, hg⟩
    refine ⟨decide (0 < y), fun R hR => ?_, ?_⟩
    · walk_at "go"
      have e : decide ((0 : Int) < (y : Int)) = decide (0 < y) := decide_eq_decide.mpr (by omega)
      rw [e]
      exact hR
    · refine x_dec (fun h0 => ?_) (fun h0 => ?_)
      · walk_at "go"
        refine ⟨x % y, Nat.lt_of_lt_of_le (Nat.mod_lt _ h0) hym, y, x % y, _, rfl, rfl, Nat.le_trans (Nat.le_of_lt (Nat.mod_lt _ h0)) hy, Nat.le_refl _, ?_⟩
        rw [← hg, Nat.gcd_comm x y, Nat.gcd_rec y x, Nat.gcd_comm]
      · walk_at "go"
        have e : y = 0 := by omega
        subst e
        rw [Nat.gcd_zero_right] at hg
        rw [hg]
        exact q
theorem ok_l_frac {f : Addr} {fd : FuncData} (F : Fun K "_law_frac" "_law_frac" s_l_frac f fd) (Z_abs : mg "abs" = none) (C_l_gcd : Cal P w K mg base 1 "_law_gcd" ["_law_one", "_law_other"] spGcd) : FnOk P w K mg base CX0 2 f fd ["_law_top", "_law_bottom"] spFrac := by
  refine F.ok sc_l_frac (fun vs H Q E h => ?_) (fun cdv A outer s H vs Q E hr h => ?_)
  · obtain ⟨_, _, rfl, _⟩ := h
    rfl
  · obtain ⟨t, b, rfl, ht, hb, hb2, q⟩ := h
    unfold Sml at ht hb2
    refine ⟨_, (pss_cons (ps_set (i := 2) sc_l_frac.nd rfl (Or.inl rfl) (pe_cal C_l_gcd (hr.mono (by decide)) (by rfl) (pa_cons (pe_callB call_absA (by rfl) Z_abs (by decide +kernel) (pa_cons (pv 0) pa_nil)) (pa_cons (pv 1) pa_nil))))
      (pss_one (ps_ret (pe_tup (pa_cons (pe_op op_fdivA (pv 0) (pv 2)) (pa_cons (pe_op op_fdivA (pv 1) (pv 2)) pa_nil)))))), ?_⟩
    walk_at "go"
    have ea : (if t < 0 then -t else t) = (t.natAbs : Int) := by split <;> omega
    have eb : b = (b.natAbs : Int) := by omega
    refine ⟨t.natAbs, b.natAbs, by rw [ea, ← eb], by omega, ?_⟩
    have g1 := gcd_pos (t := t) hb
    have g2 := gcd_le (t := t) hb
    walk_at "go"
    refine ⟨sz_le (by simp), fun p hp => ?_⟩
    exact q _ p (same_new hp) hp upd_same
end
/-! ### a drawn ring -/
theorem x_disp {trs : List (TE × TE)} {σ : L2.St} {H : Hp} {Q : VK} (h : ∀ p, H p = none → tPairs trs σ (upd H p (.dK [])) fun ps H2 => H2 p = some (.dK []) ∧ ∃ kvs : List (Key × V), ps = kvs.map (fun kv => (kV kv.1, kv.2)) ∧ kvs.length ≤ 15 ∧ Q (.ref p) (upd H2 p (.dK (mergeK [] kvs)))) : tDisp trs σ H Q := h
theorem x_prs {tk tv : TE} {r : List (TE × TE)} {σ : L2.St} {H : Hp} {R : List (V × V) → Hp → Prop} (h : tk σ H fun x H1 => tv σ H1 fun y H2 => tPairs r σ H2 fun ps H3 => R ((x, y) :: ps) H3) : tPairs ((tk, tv) :: r) σ H R := h
theorem x_prs0 {σ : L2.St} {H : Hp} {R : List (V × V) → Hp → Prop} (h : R [] H) : tPairs [] σ H R := h
theorem merge1 {z : Str} {v : V} : mergeK [] [((Sum.inr z : Key), v)] = [(Sum.inr z, v)] := rfl
theorem merge2 {z y : Str} {v u : V} (n : z ≠ y) : mergeK [] [((Sum.inr z : Key), v), (Sum.inr y, u)] = [(Sum.inr z, v), (Sum.inr y, u)] := by
  show putK [((Sum.inr z : Key), v)] (Sum.inr y) u = _
  unfold putK
  rw [if_neg (by simp [n])]
  rfl
theorem nm_on : NameS "on" := nameL_iff.mp (by decide +kernel)
theorem nm_off : NameS "off" := nameL_iff.mp (by decide +kernel)
theorem nm_h : NameS "h" := nameL_iff.mp (by decide +kernel)
theorem nm_t : NameS "t" := nameL_iff.mp (by decide +kernel)
/-- the row of a ring's stand; e is the end, to the stand behind -/
def RingRow (e to : Str) (isOut : Prop) (x : Sd) : Prop := (isOut ∧ x = .hand 0 [("on", to), ("off", e)]) ∨ (¬ isOut ∧ ((∃ kd, (kd = 0 ∨ kd = 1) ∧ x = .hand kd [("on", to)]) ∨ ∃ c, 1 ≤ c ∧ c ≤ 9 ∧ x = .chance [("h", (to, c)), ("t", (to, 2))]))
theorem RingRow.good {e to : Str} {o : Prop} {x : Sd} {ns : List Str} (r : RingRow e to o x) (he : e ∈ ns) (ht : to ∈ ns) : GoodSd 2 ns x := by
  rcases r with ⟨_, rfl⟩ | ⟨_, ⟨kd, hk, rfl⟩ | ⟨c, c1, c9, rfl⟩⟩
  · refine ⟨by decide, by decide, by show [("on" : Str), "off"].Nodup; decide +kernel, by simp, by simp, fun q hq => ?_⟩
    rcases List.mem_cons.mp hq with rfl | hq
    · exact ⟨nm_on, ht⟩
    · rw [List.mem_singleton.mp hq]
      exact ⟨nm_off, he⟩
  · refine ⟨by omega, by omega, by simp, by simp, by simp, fun q hq => ?_⟩
    rw [List.mem_singleton.mp hq]
    exact ⟨nm_on, ht⟩
  · refine ⟨by show [("h" : Str), "t"].Nodup; decide +kernel, by simp, by simp, fun q hq => ?_⟩
    rcases List.mem_cons.mp hq with rfl | hq
    · exact ⟨nm_h, ht, c1, c9⟩
    · rw [List.mem_singleton.mp hq]
      exact ⟨nm_t, ht, by show (1 : Int) ≤ 2; omega, by show (2 : Int) ≤ 9; omega⟩
/-- the first i stands of a ring of n, and its end -/
structure RingI (ws : List Str) (n out i : Nat) (l : List (Str × Sd)) : Prop where
  keys : ∃ e, ws[n]? = some e ∧ l.map (·.1) = e :: ws.take i ∧ l.lookup e = some .fin
  row : ∀ k < i, ∀ e z to, ws[n]? = some e → ws[k]? = some z → ws[(k + 1) % n]? = some to → ∃ x, l.lookup z = some x ∧ RingRow e to (k = out) x
def spRound : Sp := fun vs H Q _ => ∃ (p : Addr) (n : Nat), vs = [.ref p, .int n] ∧ PoolAt H p ∧ 1 ≤ n ∧ n ≤ 8 ∧
  ∀ H' r q D ws out l, But p H H' → H' r = some (.lst [.ref q, .int (out : Nat), .ref D]) → H' q = some (.lst (strsV ws)) → ws.length = n + 1 → (∀ z ∈ ws, NameS z) → ws.Nodup → DictOf SdAt H' D l → out < n → RingI ws n out n l → Q (.ref r) H'
section
variable {P : Program} {w : World} {K : PySem.W.Frag} {mg : Str → Option Value} {base : Heap}
theorem ok_l_round {f : Addr} {fd : FuncData} (F : Fun K "_law_round" "_law_round" s_l_round f fd) (Z_range : mg "range" = none) (C_draw : Cal P w K mg base 1 "_law_draw" ["_law_pool_here", "_law_many"] spDraw)
    (C_words : Cal P w K mg base 3 "_law_words" ["_law_pool_here", "_law_many"] spWords) : FnOk P w K mg base CX0 4 f fd ["_law_pool_here", "_law_many"] spRound := by
  refine F.ok sc_l_round (fun vs H Q E h => ?_) (fun cdv A outer s H vs Q E hr h => ?_)
  · obtain ⟨_, _, rfl, _⟩ := h
    rfl
  · obtain ⟨p, n, rfl, hp, n1, n8, k⟩ := h
    have hu := hu_of hr
    refine ⟨_, (pss_cons (ps_set (i := 2) sc_l_round.nd rfl (Or.inl rfl) (pe_cal C_words (hr.mono (by decide)) (by rfl) (pa_cons (pv 0) (pa_cons (pe_op op_add (pv 1) pe_int) pa_nil))))
      (pss_cons (ps_set (i := 3) sc_l_round.nd rfl (Or.inl rfl) (pe_ix ix_list (pv 2) (pv 1) (fun _ _ => rfl)))
      (pss_cons (ps_set (i := 4) sc_l_round.nd rfl (Or.inl rfl) (pe_disp (pps_cons (pv 3) (pe_tup (pa_cons pe_str pa_nil)) pps_nil) (by rfl) (by rfl) (fun z => by cases z) (by decide)))
      (pss_cons (ps_set (i := 5) sc_l_round.nd rfl (Or.inl rfl) (pe_cal C_draw (hr.mono (by decide)) (by rfl) (pa_cons (pv 0) (pa_cons (pv 1) pa_nil))))
      (pss_cons (ps_for PassesOwn.never rfl (pi_range1 rfl Z_range (pa_cons (pv 1) pa_nil)) (pg_name (i := 6) sc_l_round.nd rfl (Or.inl rfl))
      (pss_cons (ps_set (i := 7) sc_l_round.nd rfl (Or.inl rfl) (pe_ix ix_list (pv 2) (pe_op op_mod (pe_op op_add (pv 6) pe_int) (pv 1)) (fun _ _ => rfl)))
      (pss_cons (ps_set (i := 8) sc_l_round.nd rfl (Or.inl rfl) (pe_cal C_draw (hr.mono (by decide)) (by rfl) (pa_cons (pv 0) (pa_cons pe_int pa_nil))))
      (pss_one (ps_if (pt_cmpR op_eq (pv 6) (pv 5) (nomark _))
      (pss_one (ps_dput hu (pv 4) (pe_ix ix_list (pv 2) (pv 6) (fun _ _ => rfl)) (pe_tup (pa_cons pe_str (pa_cons pe_int (pa_cons (pe_disp (pps_cons pe_str (pv 7) (pps_cons pe_str (pv 3) pps_nil)) (by rfl) (by rfl) (fun z => by cases z) (by decide)) pa_nil)))) rfl))
      (pss_one (ps_if (pt_cmpR op_lt (pv 8) pe_int (nomark _))
      (pss_one (ps_dput hu (pv 4) (pe_ix ix_list (pv 2) (pv 6) (fun _ _ => rfl)) (pe_tup (pa_cons pe_str (pa_cons (pv 8) (pa_cons (pe_disp (pps_cons pe_str (pv 7) pps_nil) (by rfl) (by rfl) (fun z => by cases z) (by decide)) pa_nil)))) rfl))
      (pss_one (ps_dput hu (pv 4) (pe_ix ix_list (pv 2) (pv 6) (fun _ _ => rfl)) (pe_tup (pa_cons pe_str (pa_cons (pe_disp (pps_cons pe_str (pe_tup (pa_cons (pv 7) (pa_cons (pe_op op_add pe_int (pe_cal C_draw (hr.mono (by decide)) (by rfl) (pa_cons (pv 0) (pa_cons pe_int pa_nil)))) pa_nil))) (pps_cons pe_str (pe_tup (pa_cons (pv 7) (pa_cons pe_int pa_nil))) pps_nil)) (by rfl) (by rfl) (fun z => by cases z) (by decide)) pa_nil))) rfl)))))))))
      (pss_one (ps_ret (pe_lst (pa_cons (pv 2) (pa_cons (pv 5) (pa_cons (pv 4) pa_nil))))))))))), ?_⟩
    walk_at "go"
    refine ⟨p, (n : Int) + 1, rfl, hp, by omega, by omega, fun H1 q ws b1 p1 hq0 hq wl wn wd => ?_⟩
    have wl2 : ws.length = n + 1 := by rw [wl]; omega
    have nqp : q ≠ p := hp.ne hq0
    obtain ⟨e, he⟩ : ∃ e, ws[n]? = some e := ⟨_, List.getElem?_eq_getElem (by omega)⟩
    have hev : (strsV ws)[n]? = some (.str e) := by rw [List.getElem?_map, he]; rfl
    have hem : e ∈ ws := List.mem_of_getElem? he
    walk_at "go"
    refine x_ixl n (SqL.of hq) rfl hev ?_
    walk_at "go"
    refine x_disp fun D hD => x_prs ?_
    walk_at "go"
    refine ⟨by decide, fun ae hae => ?_⟩
    have nDa : D ≠ ae := ne_of_none upd_same hae
    have hae1 : H1 ae = none := by rw [upd_ne nDa.symm] at hae; exact hae
    refine x_prs0 ⟨?_, [(Sum.inr e, .ref ae)], rfl, by simp, ?_⟩
    · rw [upd_ne nDa]
      exact upd_same
    rw [merge1]
    have nDp : D ≠ p := p1.ne hD
    have nap : ae ≠ p := p1.ne hae1
    have hD0 : H D = none := none_of_but b1 hD nDp
    have b2 : But p H (upd (upd (upd H1 D (.dK [])) ae (.tup [.str "end"])) D (.dK [(Sum.inr e, .ref ae)])) := fun b o hb n => by
      have e1 := b1 b o hb n
      rw [upd_ne (ne_of_none e1 hD), upd_ne (ne_of_none e1 hae1), upd_ne (ne_of_none e1 hD)]
      exact e1
    have p2 : PoolAt (upd (upd (upd H1 D (.dK [])) ae (.tup [.str "end"])) D (.dK [(Sum.inr e, .ref ae)])) p := ((p1.upd nDp.symm).upd nap.symm).upd nDp.symm
    have hq2 : (upd (upd (upd H1 D (.dK [])) ae (.tup [.str "end"])) D (.dK [(Sum.inr e, .ref ae)])) q = some (.lst (strsV ws)) := by
      rw [upd_ne (ne_of_none hq hD), upd_ne (ne_of_none hq hae1), upd_ne (ne_of_none hq hD)]
      exact hq
    have hD2 : (upd (upd (upd H1 D (.dK [])) ae (.tup [.str "end"])) D (.dK [(Sum.inr e, .ref ae)])) D = some (.dK [(Sum.inr e, .ref ae)]) := upd_same
    have ha2 : (upd (upd (upd H1 D (.dK [])) ae (.tup [.str "end"])) D (.dK [(Sum.inr e, .ref ae)])) ae = some (.tup [.str "end"]) := by rw [upd_ne nDa.symm, upd_same]
    generalize upd (upd (upd H1 D (.dK [])) ae (.tup [.str "end"])) D (.dK [(Sum.inr e, .ref ae)]) = H2 at b2 p2 hq2 hD2 ha2 ⊢
    have hW2 : DictW SdAt (wo H2 p) D [(e, Sd.fin)] := ⟨[(e, ae)], by rw [wo_ne nDp]; exact hD2, rfl, fun z a hza => by
      cases List.mem_singleton.mp hza
      refine ⟨.fin, by simp [List.lookup], ?_⟩
      show wo (wo H2 p) D ae = _
      rw [wo_ne nDa.symm, wo_ne nap]
      exact ha2⟩
    walk_at "go"
    refine ⟨p, n, rfl, p2, by omega, by omega, fun H3 out b3 p3 o0 o1 => ?_⟩
    have hW3 := hW2.same monoS (but_wo b3)
    have hq3 := b3 q _ hq2 nqp
    have nqD : q ≠ D := ne_of hq2 hD2 (by intro z; cases z)
    have b23 := b2.trans b3
    walk_at "go"
    refine lpR (fun i σ H' => ∃ v6 v7 v8 l, σ = [some (.ref p), some (.int n), some (.ref q), some (.str e), some (.ref D), some (.int out), v6, v7, v8] ∧ But p (wo H3 D) H' ∧ PoolAt H' p ∧ DictW SdAt (wo H' p) D l ∧
      RingI ws n out.toNat i l ∧ ∀ z x, l.lookup z = some x → GoodSd 2 ws x) ⟨by omega, by omega⟩ ?_ ?_ ?_
    · exact ⟨_, _, _, _, rfl, fun b o e _ => wo_same b o e, p3, hW3, ⟨⟨e, he, by simp, by simp [List.lookup]⟩, fun k hk => absurd hk (by omega)⟩, fun z x hz => by
        have := lookup_mem hz
        cases List.mem_singleton.mp this
        trivial⟩
    · rintro i σ H4 hi ⟨v6, v7, v8, l, rfl, b4, p4, hDW, RI, gl⟩
      have hi2 : i < n := by omega
      have hq4 : H4 q = some (.lst (strsV ws)) := b4 q _ (by rw [wo_ne nqD]; exact hq3) nqp
      obtain ⟨z, hz⟩ : ∃ z, ws[i]? = some z := ⟨_, List.getElem?_eq_getElem (by omega)⟩
      have hzv : (strsV ws)[i]? = some (.str z) := by rw [List.getElem?_map, hz]; rfl
      have him : (i + 1) % n < n := Nat.mod_lt _ (by omega)
      obtain ⟨to, hto⟩ : ∃ z, ws[(i + 1) % n]? = some z := ⟨_, List.getElem?_eq_getElem (by omega)⟩
      have htv : (strsV ws)[(i + 1) % n]? = some (.str to) := by rw [List.getElem?_map, hto]; rfl
      have htm : to ∈ ws := List.mem_of_getElem? hto
      obtain ⟨e', he', kl, lfin⟩ := RI.keys
      rw [he] at he'
      cases he'
      have hzt : z ∉ l.map (·.1) := fun hm => by
        rw [kl] at hm
        rcases List.mem_cons.mp hm with rfl | hm
        · have := L2.nd_ix wd hz he
          omega
        · obtain ⟨j, hj, hje⟩ := List.getElem_of_mem hm
          have hj2 : j < i := by simp at hj; omega
          have h5 : ws[j]? = some z := by
            rw [List.getElem_take] at hje
            rw [List.getElem?_eq_getElem (by omega), hje]
          have := L2.nd_ix wd h5 hz
          omega
      have ll : l.length ≤ 1000 := by
        have := congrArg List.length kl
        rw [List.length_map, List.length_cons, List.length_take] at this
        omega
      have zne : z ≠ e := fun h => by
        rw [h] at hz
        have := L2.nd_ix wd hz he
        omega
      -- a stand a is stored
      have fin : ∀ (H5 : Hp) (a : Addr) (x : Sd) (v6 v7 v8 : Option V) (N : L2.St → Hp → Prop), But p H4 H5 → PoolAt H5 p → SdAt (wo H5 p) a x → RingRow e to (i = out.toNat) x →
          (∀ l' H6, But p (wo H3 D) H6 → PoolAt H6 p → DictW SdAt (wo H6 p) D l' → RingI ws n out.toNat (i + 1) l' → (∀ z x, l'.lookup z = some x → GoodSd 2 ws x) → N [some (.ref p), some (.int n), some (.ref q), some (.str e), some (.ref D), some (.int out), v6, v7, v8] H6) →
          rDputA (.ref D) (.str z) (.ref a) H5 fun H6 => N [some (.ref p), some (.int n), some (.ref q), some (.str e), some (.ref D), some (.int out), v6, v7, v8] H6 := by
        intro H5 a x v6 v7 v8 N b5 p5 hx hR hN
        have hg := hR.good hem htm
        obtain ⟨m, m1, m2, m3⟩ := (hDW.same monoS (but_wo b5)).ex
        have hml : m.length = l.length := by
          have := congrArg List.length m2
          rwa [List.length_map, List.length_map] at this
        refine x_putL (l := m) (x := a) (wo_some m1).1 (by omega) rfl ?_
        refine hN (putL l z x) _ (fun b o e n => ?_) (p5.upd nDp.symm) ?_ ⟨⟨e, he, ?_, ?_⟩, ?_⟩ (fun y v hv => ?_)
        · have nbD : b ≠ D := fun e2 => by rw [e2, wo_at] at e; cases e
          rw [upd_ne nbD]
          exact b5 b o (b4 b o e n) n
        · rw [wo_upd_ne nDp]
          refine DictW.put m2 m3 (sd_woT m1 (fun y c hyc => ?_) hx hg)
          obtain ⟨v, _, hv⟩ := m3 y c hyc
          exact ⟨v, hv.same wo_same⟩
        · rw [putL_new x hzt, List.map_append, kl, take_succ_get hz]
          rfl
        · rw [lookup_putL, if_neg zne.symm]
          exact lfin
        · intro k hk e2 z2 t2 h1 h2 h3
          rw [he] at h1
          cases h1
          by_cases hki : k = i
          · subst hki
            rw [hz] at h2
            cases h2
            rw [hto] at h3
            cases h3
            exact ⟨x, by rw [lookup_putL, if_pos rfl], hR⟩
          · obtain ⟨x2, hx2, hr2⟩ := RI.row k (by omega) e z2 t2 he h2 h3
            refine ⟨x2, ?_, hr2⟩
            rw [lookup_putL, if_neg (fun h => ?_)]
            · exact hx2
            · rw [h] at h2
              have := L2.nd_ix wd h2 hz
              omega
        · rw [lookup_putL] at hv
          by_cases e : y = z
          · rw [if_pos e] at hv
            cases hv
            exact hg
          · rw [if_neg e] at hv
            exact gl y v hv
      walk_at "go"
      refine x_ixl ((i + 1) % n) (SqL.of hq4) (by push_cast; rfl) htv ?_
      walk_at "go"
      refine ⟨p, 3, rfl, p4, by decide, by decide, fun H5 kd b5 p5 k0 k1 => ?_⟩
      have hq5 := b5 q _ hq4 nqp
      walk_at "go"
      refine x_dec (fun ho => ?_) (fun ho => ?_)
      · walk_at "go"
        refine x_disp fun d hd => x_prs ?_
        walk_at "go"
        refine x_prs ?_
        walk_at "go"
        refine x_prs0 ⟨upd_same, [(Sum.inr "on", .str to), (Sum.inr "off", .str e)], rfl, by simp, ?_⟩
        rw [merge2 (by decide +kernel), upd_upd]
        walk_at "go"
        refine ⟨sz_le (by simp), fun a ha => ?_⟩
        have nda : d ≠ a := ne_of_none upd_same ha
        have ha5 : H5 a = none := by rw [upd_ne nda.symm] at ha; exact ha
        have ndp : d ≠ p := p5.ne hd
        have nap : a ≠ p := p5.ne ha5
        have b6 : But p H4 (upd (upd H5 d (.dK [(Sum.inr "on", .str to), (Sum.inr "off", .str e)])) a (.tup [.str "hand", .int 0, .ref d])) := (b5.new hd).new ha
        have p6 : PoolAt (upd (upd H5 d (.dK [(Sum.inr "on", .str to), (Sum.inr "off", .str e)])) a (.tup [.str "hand", .int 0, .ref d])) p := (p5.new hd).new ha
        have hd6 : (upd (upd H5 d (.dK [(Sum.inr "on", .str to), (Sum.inr "off", .str e)])) a (.tup [.str "hand", .int 0, .ref d])) d = some (.dK [(Sum.inr "on", .str to), (Sum.inr "off", .str e)]) := by rw [upd_ne nda, upd_same]
        have ha6 : (upd (upd H5 d (.dK [(Sum.inr "on", .str to), (Sum.inr "off", .str e)])) a (.tup [.str "hand", .int 0, .ref d])) a = some (.tup [.str "hand", .int 0, .ref d]) := upd_same
        generalize upd (upd H5 d (.dK [(Sum.inr "on", .str to), (Sum.inr "off", .str e)])) a (.tup [.str "hand", .int 0, .ref d]) = H6 at b6 p6 hd6 ha6 ⊢
        walk_at "go"
        refine x_ixl i (SqL.of (b6 q _ hq4 nqp)) rfl hzv ?_
        refine fin H6 a (.hand 0 [("on", to), ("off", e)]) _ _ _ (fun σ H' => ∃ v6 v7 v8 l, σ = [some (.ref p), some (.int n), some (.ref q), some (.str e), some (.ref D), some (.int out), v6, v7, v8] ∧ But p (wo H3 D) H' ∧ PoolAt H' p ∧ DictW SdAt (wo H' p) D l ∧
          RingI ws n out.toNat (i + 1) l ∧ ∀ z x, l.lookup z = some x → GoodSd 2 ws x) b6 p6 ?_ (.inl ⟨by omega, rfl⟩) fun l' H7 g1 g2 g3 g4 g5 => ⟨_, _, _, l', rfl, g1, g2, g3, g4, g5⟩
        exact ⟨d, by rw [wo_ne nap]; exact ha6, by rw [wo_ne ndp]; exact hd6⟩
      · walk_at "go"
        refine x_dec (fun hk2 => ?_) (fun hk2 => ?_)
        · walk_at "go"
          refine x_disp fun d hd => x_prs ?_
          walk_at "go"
          refine x_prs0 ⟨upd_same, [(Sum.inr "on", .str to)], rfl, by simp, ?_⟩
          rw [merge1, upd_upd]
          walk_at "go"
          refine ⟨sz_le (by simp), fun a ha => ?_⟩
          have nda : d ≠ a := ne_of_none upd_same ha
          have ha5 : H5 a = none := by rw [upd_ne nda.symm] at ha; exact ha
          have ndp : d ≠ p := p5.ne hd
          have nap : a ≠ p := p5.ne ha5
          have b6 : But p H4 (upd (upd H5 d (.dK [(Sum.inr "on", .str to)])) a (.tup [.str "hand", .int kd, .ref d])) := (b5.new hd).new ha
          have p6 : PoolAt (upd (upd H5 d (.dK [(Sum.inr "on", .str to)])) a (.tup [.str "hand", .int kd, .ref d])) p := (p5.new hd).new ha
          have hd6 : (upd (upd H5 d (.dK [(Sum.inr "on", .str to)])) a (.tup [.str "hand", .int kd, .ref d])) d = some (.dK [(Sum.inr "on", .str to)]) := by rw [upd_ne nda, upd_same]
          have ha6 : (upd (upd H5 d (.dK [(Sum.inr "on", .str to)])) a (.tup [.str "hand", .int kd, .ref d])) a = some (.tup [.str "hand", .int kd, .ref d]) := upd_same
          generalize upd (upd H5 d (.dK [(Sum.inr "on", .str to)])) a (.tup [.str "hand", .int kd, .ref d]) = H6 at b6 p6 hd6 ha6 ⊢
          walk_at "go"
          refine x_ixl i (SqL.of (b6 q _ hq4 nqp)) rfl hzv ?_
          refine fin H6 a (.hand kd [("on", to)]) _ _ _ (fun σ H' => ∃ v6 v7 v8 l, σ = [some (.ref p), some (.int n), some (.ref q), some (.str e), some (.ref D), some (.int out), v6, v7, v8] ∧ But p (wo H3 D) H' ∧ PoolAt H' p ∧ DictW SdAt (wo H' p) D l ∧
            RingI ws n out.toNat (i + 1) l ∧ ∀ z x, l.lookup z = some x → GoodSd 2 ws x) b6 p6 ?_ (.inr ⟨by omega, .inl ⟨kd, by omega, rfl⟩⟩) fun l' H7 g1 g2 g3 g4 g5 => ⟨_, _, _, l', rfl, g1, g2, g3, g4, g5⟩
          exact ⟨d, by rw [wo_ne nap]; exact ha6, by rw [wo_ne ndp]; exact hd6⟩
        · walk_at "go"
          refine x_disp fun d hd => x_prs ?_
          walk_at "go"
          have ndp : d ≠ p := p5.ne hd
          refine ⟨p, 9, rfl, p5.new hd, by decide, by decide, fun H6 c b6 p6 c0 c1 => ?_⟩
          walk_at "go"
          refine ⟨sz_le (by simp), fun t1 ht1 => ?_⟩
          refine x_prs ?_
          walk_at "go"
          refine ⟨sz_le (by simp), fun t2 ht2 => ?_⟩
          have hd6 := b6 d _ upd_same ndp
          have nt12 : t1 ≠ t2 := ne_of_none upd_same ht2
          have ht26 : H6 t2 = none := by rw [upd_ne nt12.symm] at ht2; exact ht2
          have ndt1 : d ≠ t1 := ne_of_none hd6 ht1
          have ndt2 : d ≠ t2 := ne_of_none hd6 ht26
          have t1p : t1 ≠ p := p6.ne ht1
          have t2p : t2 ≠ p := p6.ne ht26
          refine x_prs0 ⟨by rw [upd_ne ndt2, upd_ne ndt1]; exact hd6, [(Sum.inr "h", .ref t1), (Sum.inr "t", .ref t2)], rfl, by simp, ?_⟩
          rw [merge2 (by decide +kernel)]
          walk_at "go"
          have b7 : But p H4 (upd (upd (upd H6 t1 (.tup [.str to, .int (1 + c)])) t2 (.tup [.str to, .int 2])) d (.dK [(Sum.inr "h", .ref t1), (Sum.inr "t", .ref t2)])) := fun b o hb nb => by
            have e5 := b5 b o hb nb
            have nbd : b ≠ d := ne_of_none e5 hd
            have e6 := b6 b o (by rw [upd_ne nbd]; exact e5) nb
            rw [upd_ne nbd, upd_ne (ne_of_none e6 ht26), upd_ne (ne_of_none e6 ht1)]
            exact e6
          have p7 : PoolAt (upd (upd (upd H6 t1 (.tup [.str to, .int (1 + c)])) t2 (.tup [.str to, .int 2])) d (.dK [(Sum.inr "h", .ref t1), (Sum.inr "t", .ref t2)])) p := ((p6.new ht1).new ht2).upd ndp.symm
          have hd7 : (upd (upd (upd H6 t1 (.tup [.str to, .int (1 + c)])) t2 (.tup [.str to, .int 2])) d (.dK [(Sum.inr "h", .ref t1), (Sum.inr "t", .ref t2)])) d = some (.dK [(Sum.inr "h", .ref t1), (Sum.inr "t", .ref t2)]) := upd_same
          have h17 : (upd (upd (upd H6 t1 (.tup [.str to, .int (1 + c)])) t2 (.tup [.str to, .int 2])) d (.dK [(Sum.inr "h", .ref t1), (Sum.inr "t", .ref t2)])) t1 = some (.tup [.str to, .int (1 + c)]) := by rw [upd_ne ndt1.symm, upd_ne nt12, upd_same]
          have h27 : (upd (upd (upd H6 t1 (.tup [.str to, .int (1 + c)])) t2 (.tup [.str to, .int 2])) d (.dK [(Sum.inr "h", .ref t1), (Sum.inr "t", .ref t2)])) t2 = some (.tup [.str to, .int 2]) := by rw [upd_ne ndt2.symm, upd_same]
          generalize upd (upd (upd H6 t1 (.tup [.str to, .int (1 + c)])) t2 (.tup [.str to, .int 2])) d (.dK [(Sum.inr "h", .ref t1), (Sum.inr "t", .ref t2)]) = H7 at b7 p7 hd7 h17 h27 ⊢
          refine ⟨sz_le (by simp), fun a ha => ?_⟩
          have nap : a ≠ p := p7.ne ha
          have b8 := b7.new (o := .tup [.str "chance", .ref d]) ha
          have p8 := p7.new (o := .tup [.str "chance", .ref d]) ha
          walk_at "go"
          refine x_ixl i (SqL.of (b8 q _ hq4 nqp)) rfl hzv ?_
          refine fin _ a (.chance [("h", (to, 1 + c)), ("t", (to, 2))]) _ _ _ (fun σ H' => ∃ v6 v7 v8 l, σ = [some (.ref p), some (.int n), some (.ref q), some (.str e), some (.ref D), some (.int out), v6, v7, v8] ∧ But p (wo H3 D) H' ∧ PoolAt H' p ∧ DictW SdAt (wo H' p) D l ∧
            RingI ws n out.toNat (i + 1) l ∧ ∀ z x, l.lookup z = some x → GoodSd 2 ws x) b8 p8 ?_ (.inr ⟨by omega, .inr ⟨1 + c, by omega, by omega, rfl⟩⟩) fun l' H7 g1 g2 g3 g4 g5 => ⟨_, _, _, l', rfl, g1, g2, g3, g4, g5⟩
          refine ⟨d, by rw [wo_ne nap]; exact upd_same, [("h", t1), ("t", t2)], by rw [wo_ne ndp, upd_ne (ne_of_none hd7 ha)]; exact hd7, rfl, fun z a hza => ?_⟩
          rcases List.mem_cons.mp hza with h | h
          · cases h
            refine ⟨(to, 1 + c), by simp [List.lookup], ?_⟩
            show wo _ p t1 = _
            rw [wo_ne t1p, upd_ne (ne_of_none h17 ha)]
            exact h17
          · cases List.mem_singleton.mp h
            refine ⟨(to, 2), lookup_of (by show [("h" : Str), "t"].Nodup; decide +kernel) (by simp), ?_⟩
            show wo _ p t2 = _
            rw [wo_ne t2p, upd_ne (ne_of_none h27 ha)]
            exact h27
    · rintro σ H4 ⟨v6, v7, v8, l, rfl, b4, p4, hDW, RI, gl⟩
      have hq4 : H4 q = some (.lst (strsV ws)) := b4 q _ (by rw [wo_ne nqD]; exact hq3) nqp
      walk_at "go"
      refine ⟨sz_le (by simp), fun r hr0 => ?_⟩
      have eo : out = (out.toNat : Int) := by omega
      have sr : L2.Same H4 (upd H4 r (.lst [.ref q, .int out, .ref D])) := same_new hr0
      refine k (upd H4 r (.lst [.ref q, .int out, .ref D])) r q D ws out.toNat l (fun b o e n => ?_) (by rw [upd_same, ← eo]) (sr _ _ hq4) wl2 wn wd (((hDW.of monoS).same wo_same).same sr) (by omega) RI
      exact sr _ _ (b4 b o (by rw [wo_ne (ne_of_none e hD0)]; exact b23 b o e n) n)
end
/-! ### plans: the whole plan -/
theorem lcI {K : PySem.W.Frag} {p D : Addr} {g : TG} {tt : TT} {te : TE} {vs : List Nat} {σ : L2.St} {H : Hp} {Qd : Hp → Prop} {o : Obj} {kvs : List (Key × V)} (Pv : Nat → Hp → Prop) (h0 : Pv 0 (upd H D (.lst []))) (hG : ∀ i H, i ≤ kvs.length → Pv i H → H p = some (.frz o (.dK kvs)))
    (hs : ∀ i k v H T, kvs[i]? = some (k, v) → Pv i H → H T = none → g (.ref T) (wipe σ vs) (upd H T (.tup [kV k, v])) fun σ2 H2 => wipe σ2 vs = wipe σ vs ∧ tt σ2 H2 fun b H3 =>
      if b = true then te σ2 H3 fun y H4 => ∃ acc, H4 D = some (.lst acc) ∧ acc.length < sizeLine ∧ Pv (i + 1) (upd H4 D (.lst (acc ++ [y]))) else Pv (i + 1) H3) (hd : ∀ H, Pv kvs.length H → Qd H) : LcP (Iti p o kvs) g tt te vs σ D Qd H :=
  lc_by walk_items Pv h0 hG (fun i x H H' _ hp y => by
    obtain ⟨T, k, v, rfl, hT, rfl, e1, e2⟩ := y
    dsimp only at e1 e2
    cases e : kvs[i]? with
    | none => rw [e] at e1; cases e1
    | some kv =>
      rw [e] at e1 e2
      have e3 : kV kv.1 = k := Option.some.inj e1
      have e4 : kv.2 = v := Option.some.inj e2
      subst e3 e4
      exact hs i kv.1 kv.2 _ T e hp hT) hd
def entB (wl : List (Str × Int)) (l : List (Str × Sd)) (P : List (Str × Ent)) (q : Str × Ent) : Bool := match l.lookup q.1 with
  | some x => shownB wl P x q.1 q.2
  | none => false
theorem entB_at {wl : List (Str × Int)} {l : List (Str × Sd)} {P : List (Str × Ent)} {z : Str} {e : Ent} {x : Sd} (h : l.lookup z = some x) : entB wl l P (z, e) = shownB wl P x z e := by
  unfold entB
  rw [h]
def planB (wl : List (Str × Int)) (l : List (Str × Sd)) (P : List (Str × Ent)) : Bool := P.all (entB wl l P)
theorem monoE : Mono EntAt := fun _ _ _ _ s h => h.same s
def spPlan (K : PySem.W.Frag) (CW C : Addr) : Sp := fun vs H Q _ => ∃ (a wi lo D dw t : Addr) (h e0 : Int) (st : Str) (l : List (Str × Sd)) (wl : List (Str × Int)) (P : List (Str × Ent)) (lot : List Int), vs = [.ref a, .ref wi, .ref lo, .ref D] ∧ WorkAt CW (wo H D) a h st l ∧ GoodT h l ∧ wo H D wi = some (.ins C dw (wF t e0 true)) ∧
  wo H D t = some (.dK (strK V.int wl)) ∧ SqT K (wo H D) lo (intsV lot) ∧ DictW EntAt H D P ∧ (P.map (·.1)).Nodup ∧ P.length ≤ 1000 ∧ (∀ z e, P.lookup z = some e → ∃ x, l.lookup z = some x ∧ EntOk lot x e ∧ ShowOk wl e0 P x z e) ∧ ∀ H', L2.Same H H' → Q (.bl (planB wl l P)) H'
section
variable {P : Program} {w : World} {K : PySem.W.Frag} {mg : Str → Option Value} {base : Heap} {C CW : Addr}
theorem ok_is_plan {f : Addr} {fd : FuncData} (F : Fun K "is_plan" "is_plan" s_is_plan f fd) (Z_all : mg "all" = none) (Z_dict : mg "dict" = none) (Z_isinstance : mg "isinstance" = none)
    (C_is_entry : Cal P w K mg base 3 "is_entry" ["work", "lot", "stand", "entry"] (spIsEntry K CW)) (C_is_shown : Cal P w K mg base 6 "is_shown" ["work", "wish", "stand", "thing"] (spShown CW C)) : FnOk P w K mg base CX0 7 f fd ["work", "wish", "lot", "thing"] (spPlan K CW C) := by
  refine F.ok sc_is_plan (fun vs H Q E h => ?_) (fun cdv A outer s H vs Q E hr h => ?_)
  · obtain ⟨_, _, _, _, _, _, _, _, _, _, _, _, _, rfl, _⟩ := h
    rfl
  · obtain ⟨a, wi, lo, D, dw, t, h, e0, st, l, wl, pl, lot, rfl, wa, g, hw, ht, hlo, hW, nd, hl, ok, q⟩ := h
    obtain ⟨m, hD, hk, hm⟩ := id hW.ex
    have hu := hu_of hr
    have hml : m.length ≤ 1000 := by
      have := congrArg List.length hk
      rw [List.length_map, List.length_map] at this
      omega
    have ndm : (m.map (·.1)).Nodup := by rw [hk]; exact nd
    -- an item, its entry
    have item : ∀ (i : Nat) (k : Key) (v : V), (strK V.ref m)[i]? = some (k, v) → ∃ (z : Str) (y : Addr) (e : Ent), k = Sum.inr z ∧ v = V.ref y ∧ m[i]? = some (z, y) ∧ pl[i]? = some (z, e) ∧ pl.lookup z = some e ∧ EntAt (wo H D) y e := by
      intro i k v hi
      obtain ⟨z, y, rfl, rfl, hly⟩ := strK_at hi
      obtain ⟨e, he, hE⟩ := hm _ _ (List.mem_of_getElem? hly)
      have e1 : (m.map (·.1))[i]? = some z := by rw [List.getElem?_map, hly]; rfl
      rw [hk, List.getElem?_map] at e1
      cases e2 : pl[i]? with
      | none => rw [e2] at e1; cases e1
      | some q2 =>
        rw [e2] at e1
        have e3 : q2.1 = z := Option.some.inj e1
        have e4 := lookup_of nd (z := q2.1) (x := q2.2) (List.mem_of_getElem? e2)
        rw [e3, he] at e4
        have e5 := Option.some.inj e4
        exact ⟨z, y, e, rfl, rfl, hly, by rw [← e3, e5], he, hE⟩
    refine ⟨_, (pss_cons (ps_if (pt_not (pt_val (pe_callB call_isi (by rfl) Z_isinstance (by decide +kernel) (pa_cons (pv 3) (pa_cons (pe_bltn (v := .ty "dict") (by rfl) Z_dict (by decide +kernel) rfl) pa_nil)))))
      (pss_one (ps_ret pe_bl))
      pss_nil)
      (pss_cons (ps_if (pt_not (pt_val (pe_callB (cr_all rfl) (by rfl) Z_all (by decide +kernel) (pa_cons (pe_lock (pe_lc (own := [("stand", 4), ("entry", 5)]) (g := gTup K 2 (gCons (gName 4) (gCons (gName 5) gNil))) (tt := tYes) (by rfl) sc_is_plan.nd (pi_items (pv 3)) (blkOk_by (own := [("stand", 4), ("entry", 5)]) (N := N_is_plan) (sc := defScope s_is_plan) (by decide +kernel)) (fun _ _ _ _ _ => by exact (pg_tupK (K := K) rfl (pgs_cons (pg_name (i := 4) sc_is_plan.nd rfl (Or.inl rfl)) (pgs_cons (pg_name (i := 5) sc_is_plan.nd rfl (Or.inl rfl)) pgs_nil)))) (fun _ _ _ _ _ => pts_nil) (fun _ _ _ _ _ => by exact (pe_cal C_is_entry (hr.mono (by decide)) (by rfl) (pa_cons (pv 0) (pa_cons (pv 2) (pa_cons (pv 4) (pa_cons (pv 5) pa_nil)))))))) pa_nil))))
      (pss_one (ps_ret pe_bl))
      pss_nil)
      (pss_one (ps_ret (pe_callB (cr_all rfl) (by rfl) Z_all (by decide +kernel) (pa_cons (pe_lock (pe_lc (own := [("stand", 4)]) (g := gName 4) (tt := tYes) (by rfl) sc_is_plan.nd (pi_keys (pv 3)) (blkOk_by (own := [("stand", 4)]) (N := N_is_plan) (sc := defScope s_is_plan) (by decide +kernel)) (fun _ _ _ _ _ => (pg_name (i := 4) sc_is_plan.nd rfl (Or.inl rfl))) (fun _ _ _ _ _ => pts_nil) (fun _ _ _ _ _ => by exact (pe_cal C_is_shown (hr.mono (by decide)) (by rfl) (pa_cons (pv 0) (pa_cons (pv 1) (pa_cons (pv 4) (pa_cons (pv 3) pa_nil)))))))) pa_nil)))))), ?_⟩
    walk_at "go"
    refine x_isiDict (.dict (.inl hD)) ?_
    walk_at "go"
    refine x_nT ?_
    walk_at "go"
    refine x_lockE hD trivial fun od => ?_
    have sH : ∀ (u : HO) (H' : Hp), L2.Same (upd H D u) H' → L2.Same (wo H D) H' := fun u H' s => (same_wo (L2.Same.refl _)).trans s
    walk_at "go"
    refine runI upd_same ?_
    intro D1 hD1
    have nD1 : D1 ≠ D := fun z => by rw [z, upd_same] at hD1; cases hD1
    refine lcI (K := K) (kvs := strK V.ref m) (fun i H' => L2.Same (upd H D (.frz od (.dK (strK V.ref m)))) H' ∧ H' D1 = some (.lst ((List.replicate i true).map V.bl))) ⟨same_new hD1, upd_same⟩ (fun i H' _ h => h.1 D _ upd_same) ?_ ?_
    · rintro i k0 v0 H1 T hi ⟨s1, hD11⟩ hT
      obtain ⟨z, y, e, rfl, rfl, hly, hlp, he, hE⟩ := item i k0 v0 hi
      obtain ⟨x, hx, eo, so⟩ := ok z e he
      have s2 := same_upd (o := .tup [kV (Sum.inr z), .ref y]) s1 (s1.free hT)
      have s0 := sH _ _ s2
      have nDT : D1 ≠ T := ne_of_none hD11 hT
      have hD2 : (upd H1 T (.tup [kV (Sum.inr z), .ref y])) D1 = some (.lst ((List.replicate i true).map V.bl)) := by rw [upd_ne nDT]; exact hD11
      have hilen : i < m.length := (List.getElem?_eq_some_iff.mp hly).1
      refine x_g2 (SqT.of upd_same) ?_
      generalize upd H1 T (.tup [kV (Sum.inr z), .ref y]) = H2 at s2 s0 hD2 ⊢
      refine ⟨rfl, ?_⟩
      walk_at "go"
      refine ⟨a, lo, y, h, st, z, l, x, lot, e, rfl, wa.same s0, hx, same_t s0 hlo, hE.same s0, eo, ?_⟩
      refine ⟨_, hD2, sz_lt (by rw [List.length_map, List.length_replicate]; omega), same_upd s2 hD1, ?_⟩
      rw [upd_same, List.replicate_succ', List.map_append]
      rfl
    · rintro H1 ⟨s1, hD11⟩
      refine ⟨s1 D _ upd_same, ?_⟩
      have s1b : L2.Same H (upd H1 D (.dK (strK V.ref m))) := same_back hD s1
      have hD12 : (upd H1 D (.dK (strK V.ref m))) D1 = some (.lst ((List.replicate (strK V.ref m).length true).map V.bl)) := by rw [upd_ne nD1]; exact hD11
      generalize upd H1 D (.dK (strK V.ref m)) = H2 at s1b hD12 ⊢
      walk_at "go"
      refine ⟨D1, _, rfl, SqL.of hD12, ?_⟩
      rw [show (List.replicate (strK V.ref m).length true).all id = true by simp]
      walk_at "go"
      have hDD := s1b _ _ hD
      refine x_lockE hDD trivial fun od2 => ?_
      have sH2 : ∀ (u : HO) (H' : Hp), L2.Same (upd H2 D u) H' → L2.Same (wo H D) H' := fun u H' s => (wo_mono s1b).trans ((same_wo (L2.Same.refl _)).trans s)
      walk_at "go"
      refine runK upd_same ?_
      intro D3 hD3
      have nD3 : D3 ≠ D := fun z => by rw [z, upd_same] at hD3; cases hD3
      refine lcK (kvs := strK V.ref m) (fun i H' => L2.Same (upd H2 D (.frz od2 (.dK (strK V.ref m)))) H' ∧ H' D3 = some (.lst (((pl.take i).map (entB wl l pl)).map V.bl))) ⟨same_new hD3, upd_same⟩ (fun i H' _ h => h.1 D _ upd_same) ?_ ?_
      · rintro i k0 v0 H3 hi ⟨s3, hD31⟩
        obtain ⟨z, y, e, rfl, rfl, hly, hlp, he, hE⟩ := item i k0 v0 hi
        obtain ⟨x, hx, eo, so⟩ := ok z e he
        have s0 := sH2 _ _ s3
        have hilen : i < m.length := (List.getElem?_eq_some_iff.mp hly).1
        walk_at "go"
        refine ⟨rfl, ?_⟩
        walk_at "go"
        have hPl : PlanAt H3 D pl := ⟨m, .inr ⟨od2, s3 _ _ upd_same⟩, hk, fun z a hza => by
          obtain ⟨e, he, hE⟩ := hm z a hza
          exact ⟨e, he, hE.same s0⟩⟩
        refine ⟨a, wi, D, dw, t, h, e0, st, z, l, wl, pl, x, e, rfl, wa.same s0, g, s0 _ _ hw, s0 _ _ ht, hPl, hx, he, so, fun H4 s4 => ?_⟩
        refine ⟨_, s4 _ _ hD31, sz_lt (by rw [List.length_map, List.length_map, List.length_take]; omega), same_upd (s3.trans s4) hD3, ?_⟩
        rw [upd_same, take_succ_get hlp, List.map_append, List.map_append]
        show _ = some (HO.lst (_ ++ [V.bl (entB wl l pl (z, e))]))
        rw [entB_at hx]
      · rintro H3 ⟨s3, hD31⟩
        refine ⟨s3 D _ upd_same, ?_⟩
        have s3b : L2.Same H2 (upd H3 D (.dK (strK V.ref m))) := same_back hDD s3
        have hlen : (strK V.ref m).length = pl.length := by
          have := congrArg List.length hk
          rw [List.length_map, List.length_map] at this
          rw [List.length_map, this]
        rw [hlen, List.take_length] at hD31
        have hD32 : (upd H3 D (.dK (strK V.ref m))) D3 = _ := (upd_ne nD3).trans hD31
        generalize upd H3 D (.dK (strK V.ref m)) = H4 at s3b hD32 ⊢
        walk_at "go"
        refine ⟨D3, _, rfl, SqL.of hD32, ?_⟩
        rw [List.all_map]
        exact q H4 (s1b.trans s3b)
end
/-! ### k20: the plain law -/
theorem cyc_false {f : Nat → Int} {n : Nat} (hn : 1 ≤ n) (h : ∀ k < n, f ((k + 1) % n) < f k) : False := by
  have up : ∀ j : Nat, j < n → f j ≤ f 0 - (j : Int) := by
    intro j
    induction j with
    | zero => intro _; omega
    | succ j ih =>
      intro hj
      have h1 := ih (by omega)
      have h2 := h j (by omega)
      rw [Nat.mod_eq_of_lt hj] at h2
      omega
  have h1 := up (n - 1) (by omega)
  have h2 := h (n - 1) (by omega)
  rw [show n - 1 + 1 = n by omega, Nat.mod_self] at h2
  omega
theorem ring_mod {out k n : Nat} (ho : out < n) (hk : k < n) : ((out : Int) - (k : Int)) % (n : Int) = if k ≤ out then (out : Int) - (k : Int) else (out : Int) - (k : Int) + (n : Int) := by
  split
  · exact Int.emod_eq_of_lt (by omega) (by omega)
  · have e : ((out : Int) - (k : Int)) % (n : Int) = ((out : Int) - (k : Int) + (n : Int)) % (n : Int) := by rw [Int.add_emod_right]
    rw [e]
    exact Int.emod_eq_of_lt (by omega) (by omega)
theorem ring_next {k n : Nat} (hk : k < n) : (k + 1) % n = if k + 1 = n then 0 else k + 1 := by
  split
  · rename_i h
    rw [h, Nat.mod_self]
  · exact Nat.mod_eq_of_lt (by omega)
def mvOn (lot : List Int) (l : List (Str × Sd)) (z : Str) : Option Str := match l.lookup z with
  | some (.hand k _) => if k ∈ lot then some ("on" : Str) else none
  | _ => none
/-- a plan over the first i stands of a ring of n and its end, all of one bound -/
structure PlanF (ws : List Str) (n i : Nat) (b : Int × Int) (mvf : Nat → Option Str) (rk : Nat → Int) (P : List (Str × Ent)) : Prop where
  keys : ∃ e, ws[n]? = some e ∧ P.map (·.1) = e :: ws.take i ∧ P.lookup e = some ⟨b, none, 0⟩
  ent : ∀ k < i, ∀ z, ws[k]? = some z → P.lookup z = some ⟨b, mvf k, rk k⟩
section
variable {ws : List Str} {n i out : Nat} {b : Int × Int} {mvf : Nat → Option Str} {rk : Nat → Int} {P : List (Str × Ent)}
theorem PlanF.fresh (F : PlanF ws n i b mvf rk P) (wd : ws.Nodup) (hi : i < n) {z : Str} (hz : ws[i]? = some z) : z ∉ P.map (·.1) := fun hm => by
  obtain ⟨e, he, kl, _⟩ := F.keys
  rw [kl] at hm
  rcases List.mem_cons.mp hm with rfl | hm
  · have := L2.nd_ix wd hz he
    omega
  · obtain ⟨j, hj, hje⟩ := List.getElem_of_mem hm
    have hj2 : j < i := by simp at hj; omega
    have h5 : ws[j]? = some z := by
      rw [List.getElem_take] at hje
      have hjl : j < ws.length := by simp at hj; omega
      rw [List.getElem?_eq_getElem hjl, hje]
    have := L2.nd_ix wd h5 hz
    omega
theorem PlanF.put (F : PlanF ws n i b mvf rk P) (wd : ws.Nodup) (hi : i < n) {z : Str} (hz : ws[i]? = some z) {m : Option Str} {r : Int} (hm : m = mvf i) (hr : r = rk i) : PlanF ws n (i + 1) b mvf rk (putL P z ⟨b, m, r⟩) := by
  have fr := F.fresh wd hi hz
  obtain ⟨e, he, kl, ke⟩ := F.keys
  subst hm hr
  refine ⟨⟨e, he, ?_, ?_⟩, fun k hk y hy => ?_⟩
  · rw [putL_new _ fr, List.map_append, kl, take_succ_get hz]
    rfl
  · rw [lookup_putL, if_neg (fun h => ?_)]
    · exact ke
    · rw [← h] at hz
      have := L2.nd_ix wd hz he
      omega
  · rw [lookup_putL]
    by_cases h : y = z
    · rw [if_pos h]
      rw [h] at hy
      have := L2.nd_ix wd hy hz
      rw [this]
    · rw [if_neg h]
      have nk : k ≠ i := fun h2 => by
        rw [h2, hz] at hy
        exact h (Option.some.inj hy).symm
      exact F.ent k (by omega) y hy
theorem PlanF.set (F : PlanF ws n n b mvf rk P) (wd : ws.Nodup) (ho : out < n) {z : Str} (hz : ws[out]? = some z) : PlanF ws n n b (fun k => if k = out then some ("off" : Str) else mvf k) (fun k => if k = out then 1 else rk k) (putL P z ⟨b, some ("off" : Str), 1⟩) := by
  obtain ⟨e, he, kl, ke⟩ := F.keys
  have hin : z ∈ P.map (·.1) := List.mem_map.mpr ⟨_, lookup_mem (F.ent out ho z hz), rfl⟩
  refine ⟨⟨e, he, ?_, ?_⟩, fun k hk y hy => ?_⟩
  · rw [putL_keys _ hin, kl]
  · rw [lookup_putL, if_neg (fun h => ?_)]
    · exact ke
    · rw [← h] at hz
      have := L2.nd_ix wd hz he
      omega
  · rw [lookup_putL]
    by_cases h : y = z
    · rw [if_pos h]
      rw [h] at hy
      have := L2.nd_ix wd hy hz
      subst this
      rw [if_pos rfl, if_pos rfl]
    · rw [if_neg h]
      have nk : k ≠ out := fun h2 => by
        rw [h2, hz] at hy
        exact h (Option.some.inj hy).symm
      rw [if_neg nk, if_neg nk]
      exact F.ent k hk y hy
theorem PlanF.all (F : PlanF ws n i b mvf rk P) (hi : i ≤ n) {t : Str} {en : Ent} (h : P.lookup t = some en) : (ws[n]? = some t ∧ en = ⟨b, none, 0⟩) ∨ ∃ k < i, ws[k]? = some t ∧ en = ⟨b, mvf k, rk k⟩ := by
  obtain ⟨e, he, kl, ke⟩ := F.keys
  have hm : t ∈ P.map (·.1) := List.mem_map.mpr ⟨_, lookup_mem h, rfl⟩
  rw [kl] at hm
  rcases List.mem_cons.mp hm with rfl | hm
  · rw [ke] at h
    exact .inl ⟨he, (Option.some.inj h).symm⟩
  · obtain ⟨j, hj, hje⟩ := List.getElem_of_mem hm
    have hj2 : j < i := by simp at hj; omega
    have hjl : j < ws.length := by simp at hj; omega
    have h5 : ws[j]? = some t := by
      rw [List.getElem_take] at hje
      rw [List.getElem?_eq_getElem hjl, hje]
    rw [F.ent j hj2 t h5] at h
    exact .inr ⟨j, hj2, h5, (Option.some.inj h).symm⟩
theorem PlanF.nd (F : PlanF ws n i b mvf rk P) (wd : ws.Nodup) (hi : i ≤ n) : (P.map (·.1)).Nodup := by
  obtain ⟨e, he, kl, _⟩ := F.keys
  rw [kl]
  refine List.nodup_cons.mpr ⟨fun hm => ?_, wd.sublist (List.take_sublist _ _)⟩
  obtain ⟨j, hj, hje⟩ := List.getElem_of_mem hm
  have hj2 : j < i := by simp at hj; omega
  have hjl : j < ws.length := by simp at hj; omega
  have h5 : ws[j]? = some e := by
    rw [List.getElem_take] at hje
    rw [List.getElem?_eq_getElem hjl, hje]
  have := L2.nd_ix wd h5 he
  omega
end
/-- the row of a ring's stand in the work, where rows are sorted -/
theorem row_sort {e to : Str} {o : Prop} {x x' : Sd} (r : RingRow e to o x) (s : SdSort x x') : (o ∧ ∃ l2, x' = .hand 0 l2 ∧ l2.lookup ("on" : Str) = some to ∧ l2.lookup ("off" : Str) = some e) ∨
    (¬ o ∧ ((∃ kd, (kd = 0 ∨ kd = 1) ∧ x = .hand kd [(("on" : Str), to)] ∧ x' = .hand kd [(("on" : Str), to)]) ∨ ∃ l0 l2, x = .chance l0 ∧ x' = .chance l2 ∧ l2.length = 2 ∧ ∀ q ∈ l2, q.2.1 = to)) := by
  rcases r with ⟨ho, rfl⟩ | ⟨ho, ⟨kd, hk, rfl⟩ | ⟨c, c1, c9, rfl⟩⟩
  · cases x' with
    | fin => cases s
    | chance _ => cases s
    | hand k2 l2 =>
      obtain ⟨rfl, hp, _⟩ := s
      have nd : (l2.map (·.1)).Nodup := (hp.map _).nodup_iff.mpr (by show [("on" : Str), ("off" : Str)].Nodup; decide +kernel)
      exact .inl ⟨ho, l2, rfl, lookup_of nd (hp.mem_iff.mpr List.mem_cons_self), lookup_of nd (hp.mem_iff.mpr (List.mem_cons_of_mem _ List.mem_cons_self))⟩
  · cases x' with
    | fin => cases s
    | chance _ => cases s
    | hand k2 l2 =>
      obtain ⟨rfl, hp, _⟩ := s
      rw [List.perm_singleton.mp hp]
      exact .inr ⟨ho, .inl ⟨_, hk, rfl, rfl⟩⟩
  · cases x' with
    | fin => cases s
    | hand _ _ => cases s
    | chance l2 =>
      obtain ⟨hp, _⟩ := s
      refine .inr ⟨ho, .inr ⟨_, l2, rfl, rfl, hp.length_eq, fun q hq => ?_⟩⟩
      have := hp.mem_iff.mp hq
      simp at this
      rcases this with rfl | rfl <;> rfl
structure Ring (ws : List Str) (n out : Nat) (l l' : List (Str × Sd)) : Prop where
  wl : ws.length = n + 1
  wd : ws.Nodup
  n1 : 1 ≤ n
  ho : out < n
  RI : RingI ws n out n l
  ts : TabSort l l'
  g : GoodT 2 l
structure BOk (b : Int × Int) (e0 : Int) : Prop where
  b1 : -1000 ≤ b.1
  b2 : b.1 ≤ 1000
  b3 : 1 ≤ b.2
  b4 : b.2 ≤ 4
  gc : Nat.gcd b.1.natAbs b.2.natAbs = 1
  es : Sml e0
  lo : e0 * b.2 < b.1 * 1
theorem tab_to {h : Int} {l l' : List (Str × Sd)} (g : GoodT h l) (T : TabSort l l') {z : Str} {x : Sd} (hx : l.lookup z = some x) : ∃ x', l'.lookup z = some x' ∧ SdSort x x' := by
  have hz : z ∈ l'.map (·.1) := T.pm.mem_iff.mpr (List.mem_map.mpr ⟨_, lookup_mem hx, rfl⟩)
  obtain ⟨x', hx'⟩ := lookup_isSome hz
  obtain ⟨x2, h2, hs⟩ := T.sd z x' hx'
  rw [hx] at h2
  cases h2
  exact ⟨x', hx', hs⟩
section
variable {ws : List Str} {n out : Nat} {l l' : List (Str × Sd)} {b : Int × Int} {mvf : Nat → Option Str} {rk : Nat → Int} {P : List (Str × Ent)} {lot : List Int} {wl : List (Str × Int)} {e0 : Int}
theorem stand_at (R : Ring ws n out l l') (hl : (0 : Int) ∈ lot) (hm : ∀ k < n, ∀ z, ws[k]? = some z → (k ≠ out → mvf k = mvOn lot l z) ∧ (k = out → mvf k = some ("on" : Str) ∨ mvf k = some ("off" : Str))) (F : PlanF ws n n b mvf rk P) (rk0 : ∀ k < n, 0 ≤ rk k) (B : BOk b e0)
    {k : Nat} {z : Str} (hk : k < n) (hz : ws[k]? = some z) : ∃ x', l'.lookup z = some x' ∧ EntOk lot x' ⟨b, mvf k, rk k⟩ ∧ ShowOk wl e0 P x' z ⟨b, mvf k, rk k⟩ ∧
      shownB wl P x' z ⟨b, mvf k, rk k⟩ = (if mvf k = some ("off" : Str) then decide (0 < rk k) else decide (rk ((k + 1) % n) < rk k)) := by
  obtain ⟨e, he, kl, ke⟩ := F.keys
  have him : (k + 1) % n < n := Nat.mod_lt _ (by omega)
  obtain ⟨to, hto⟩ : ∃ z, ws[(k + 1) % n]? = some z := ⟨_, List.getElem?_eq_getElem (by have := R.wl; omega)⟩
  obtain ⟨x, hx, hr⟩ := R.RI.row k hk e z to he hz hto
  obtain ⟨x', hx', hs⟩ := tab_to R.g R.ts hx
  have kto := F.ent _ him to hto
  have fr : ∀ t en, P.lookup t = some en → en.fr = b := fun t en h => by
    rcases F.all (Nat.le_refl _) h with ⟨_, rfl⟩ | ⟨_, _, _, rfl⟩ <;> rfl
  obtain ⟨hm1, hm2⟩ := hm k hk z hz
  refine ⟨x', hx', ?_⟩
  have bto : behindE P [to] = [⟨b, mvf ((k + 1) % n), rk ((k + 1) % n)⟩] := by
    unfold behindE
    rw [List.filterMap_cons, kto]
    rfl
  have ben : behindE P [e] = [⟨b, none, 0⟩] := by
    unfold behindE
    rw [List.filterMap_cons, ke]
    rfl
  have hB : ∀ (r1 r2 : Int) (m : Option Str), handB true r1 [⟨b, m, r2⟩] = decide (r2 < r1) := fun r1 r2 m => by
    unfold handB
    rw [List.any_cons, List.any_nil, Bool.or_false, Bool.true_and]
    by_cases h : r1 ≤ r2
    · rw [decide_eq_true h, decide_eq_false (by show ¬ r2 < r1; omega)]; rfl
    · rw [decide_eq_false h, decide_eq_true (by show r2 < r1; omega)]; rfl
  have mk : ∀ (hmv : mvOk lot x' (mvf k)) (nf : x' ≠ .fin) (h1 : ∀ m, mvf k = some m → ∃ k2 l2 t, x' = .hand k2 l2 ∧ l2.lookup m = some t) (h2 : ∀ l2, x' = .chance l2 → l2.length = 2) (h3 : ∀ t ∈ goalsL x' (mvf k), t = to ∨ t = e),
      EntOk lot x' ⟨b, mvf k, rk k⟩ ∧ ShowOk wl e0 P x' z ⟨b, mvf k, rk k⟩ := fun hmv nf h1 h2 h3 =>
    ⟨⟨B.b3, ⟨by have := B.b3; show -(2 ^ 62) < b.2; omega, by have := B.b4; show b.2 < 2 ^ 62; omega⟩, B.gc, rk0 k hk, hmv⟩, ⟨B.b1, B.b2, B.b3, B.b4, B.es, B.lo, fr, fun h => absurd h nf, h1, h2, fun t ht => by
      rcases h3 t ht with rfl | rfl
      · exact ⟨_, kto⟩
      · exact ⟨_, ke⟩⟩⟩
  rcases row_sort hr hs with ⟨ho, l2, rfl, on, off⟩ | ⟨ho, ⟨kd, hkd, rfl, rfl⟩ | ⟨l0, l2, rfl, rfl, ll, lt⟩⟩
  · have hmem : ∀ m t, l2.lookup m = some t → m ∈ stepsL (.hand 0 l2) := fun m t h => List.mem_map.mpr ⟨_, lookup_mem h, rfl⟩
    rcases hm2 ho with hv | hv
    · have gl : goalsL (.hand 0 l2) (some ("on" : Str)) = [to] := by
        show (l2.lookup ("on" : Str)).toList = _
        rw [on]
        rfl
      obtain ⟨q1, q2⟩ := mk (by
        show if (0 : Int) ∈ lot then _ else _
        rw [if_pos hl, hv]
        exact ⟨("on" : Str), rfl, hmem _ _ on⟩) (fun h => by cases h) (fun m h => by
          rw [hv] at h
          cases h
          exact ⟨0, l2, to, rfl, on⟩) (fun l2 h => by cases h) (by
          rw [hv, gl]
          intro t ht
          exact .inl (List.mem_singleton.mp ht))
      refine ⟨q1, q2, ?_⟩
      rw [hv, if_neg (by decide +kernel)]
      show handB true (rk k) (behindE P (goalsL (.hand 0 l2) (some ("on" : Str)))) = _
      rw [gl, bto, hB]
    · have gl : goalsL (.hand 0 l2) (some ("off" : Str)) = [e] := by
        show (l2.lookup ("off" : Str)).toList = _
        rw [off]
        rfl
      obtain ⟨q1, q2⟩ := mk (by
        show if (0 : Int) ∈ lot then _ else _
        rw [if_pos hl, hv]
        exact ⟨("off" : Str), rfl, hmem _ _ off⟩) (fun h => by cases h) (fun m h => by
          rw [hv] at h
          cases h
          exact ⟨0, l2, e, rfl, off⟩) (fun l2 h => by cases h) (by
          rw [hv, gl]
          intro t ht
          exact .inr (List.mem_singleton.mp ht))
      refine ⟨q1, q2, ?_⟩
      rw [hv, if_pos rfl]
      show handB true (rk k) (behindE P (goalsL (.hand 0 l2) (some ("off" : Str)))) = _
      rw [gl, ben, hB]
  · have hv := hm1 ho
    have on : List.lookup ("on" : Str) [(("on" : Str), to)] = some to := by simp [List.lookup]
    have ev : mvOn lot l z = if kd ∈ lot then some ("on" : Str) else none := by
      unfold mvOn
      rw [hx]
    rw [ev] at hv
    by_cases hin : kd ∈ lot
    · rw [if_pos hin] at hv
      have gl : goalsL (.hand kd [(("on" : Str), to)]) (some ("on" : Str)) = [to] := by
        show (List.lookup ("on" : Str) [(("on" : Str), to)]).toList = _
        rw [on]
        rfl
      obtain ⟨q1, q2⟩ := mk (by
        show if kd ∈ lot then _ else _
        rw [if_pos hin, hv]
        exact ⟨("on" : Str), rfl, by show ("on" : Str) ∈ [("on" : Str)]; simp⟩) (fun h => by cases h) (fun m h => by
          rw [hv] at h
          cases h
          exact ⟨kd, _, to, rfl, on⟩) (fun l2 h => by cases h) (by
          rw [hv, gl]
          intro t ht
          exact .inl (List.mem_singleton.mp ht))
      refine ⟨q1, q2, ?_⟩
      rw [hv, if_neg (by decide +kernel)]
      show handB true (rk k) (behindE P (goalsL (.hand kd [(("on" : Str), to)]) (some ("on" : Str)))) = _
      rw [gl, bto, hB]
    · rw [if_neg hin] at hv
      have gl : goalsL (.hand kd [(("on" : Str), to)]) none = [to] := rfl
      obtain ⟨q1, q2⟩ := mk (by
        show if kd ∈ lot then _ else _
        rw [if_neg hin, hv]) (fun h => by cases h) (fun m h => by
          rw [hv] at h
          cases h) (fun l2 h => by cases h) (by
          rw [hv, gl]
          intro t ht
          exact .inl (List.mem_singleton.mp ht))
      refine ⟨q1, q2, ?_⟩
      rw [hv, if_neg (fun h => by cases h)]
      show handB true (rk k) (behindE P (goalsL (.hand kd [(("on" : Str), to)]) none)) = _
      rw [gl, bto, hB]
  · have hv := hm1 ho
    have ev : mvOn lot l z = none := by
      unfold mvOn
      rw [hx]
    rw [ev] at hv
    have gl : goalsL (.chance l2) none = [to, to] := by
      show l2.map (·.2.1) = _
      match l2, ll, lt with
      | [a, c], _, lt =>
        show [a.2.1, c.2.1] = _
        rw [lt a (by simp), lt c (by simp)]
    obtain ⟨q1, q2⟩ := mk (by
      show mvf k = none
      exact hv) (fun h => by cases h) (fun m h => by
        rw [hv] at h
        cases h) (fun l3 h => by
        cases h
        exact ll) (by
        rw [hv, gl]
        intro t ht
        simp at ht
        exact .inl ht)
    refine ⟨q1, q2, ?_⟩
    rw [hv, if_neg (fun h => by cases h)]
    show chanceB true (rk k) (behindE P (goalsL (.chance l2) none)) = _
    have b2 : behindE P [to, to] = [⟨b, mvf ((k + 1) % n), rk ((k + 1) % n)⟩, ⟨b, mvf ((k + 1) % n), rk ((k + 1) % n)⟩] := by
      unfold behindE
      rw [List.filterMap_cons, kto, List.filterMap_cons, kto]
      rfl
    rw [gl, b2]
    unfold chanceB
    rw [List.any_cons, List.any_cons, List.any_nil, Bool.or_false, Bool.or_self, Bool.not_true, Bool.false_or]
theorem end_at (R : Ring ws n out l l') (F : PlanF ws n n b mvf rk P) (B : BOk b e0) {e : Str} {v : Int} (he : ws[n]? = some e) (hwl : wl = [(e, v)]) (hv : Sml v) (hvb : ¬ v * b.2 < b.1 * 1) : l'.lookup e = some .fin ∧ EntOk lot .fin ⟨b, none, 0⟩ ∧ ShowOk wl e0 P .fin e ⟨b, none, 0⟩ ∧ shownB wl P .fin e ⟨b, none, 0⟩ = true := by
  obtain ⟨e2, he2, kl, lf⟩ := R.RI.keys
  rw [he] at he2
  cases he2
  obtain ⟨x', hx', hs⟩ := tab_to R.g R.ts lf
  have hwe : wl.lookup e = some v := by
    rw [hwl]
    simp [List.lookup]
  have fr : ∀ t en, P.lookup t = some en → en.fr = b := fun t en h => by
    rcases F.all (Nat.le_refl _) h with ⟨_, rfl⟩ | ⟨_, _, _, rfl⟩ <;> rfl
  cases x' with
  | chance _ => cases hs
  | hand _ _ => cases hs
  | fin =>
    refine ⟨hx', ⟨B.b3, ⟨by have := B.b3; show -(2 ^ 62) < b.2; omega, by have := B.b4; show b.2 < 2 ^ 62; omega⟩, B.gc, Int.le_refl _, rfl⟩, ⟨B.b1, B.b2, B.b3, B.b4, B.es, B.lo, fr, fun _ => ⟨v, hwe, hv⟩, fun m h => (by cases h), fun l2 h => (by cases h), fun t ht => (by cases ht)⟩, ?_⟩
    show (!decide (((wl.lookup e).getD 0) * b.2 < b.1 * 1)) = true
    rw [hwe]
    show (!decide (v * b.2 < b.1 * 1)) = true
    rw [decide_eq_false hvb]
    rfl
/-- what is_plan wants of each entry -/
theorem ents_ok (R : Ring ws n out l l') (hl : (0 : Int) ∈ lot) (hm : ∀ k < n, ∀ z, ws[k]? = some z → (k ≠ out → mvf k = mvOn lot l z) ∧ (k = out → mvf k = some ("on" : Str) ∨ mvf k = some ("off" : Str))) (F : PlanF ws n n b mvf rk P) (rk0 : ∀ k < n, 0 ≤ rk k) (B : BOk b e0)
    {e : Str} {v : Int} (he : ws[n]? = some e) (hwl : wl = [(e, v)]) (hv : Sml v) (hvb : ¬ v * b.2 < b.1 * 1) : ∀ z en, P.lookup z = some en → ∃ x, l'.lookup z = some x ∧ EntOk lot x en ∧ ShowOk wl e0 P x z en := fun z en h => by
  rcases F.all (Nat.le_refl _) h with ⟨h1, rfl⟩ | ⟨k, hk, h1, rfl⟩
  · rw [he] at h1
    cases h1
    obtain ⟨q1, q2, q3, _⟩ := end_at (lot := lot) R F B he hwl hv hvb
    exact ⟨_, q1, q2, q3⟩
  · obtain ⟨x, q1, q2, q3, _⟩ := stand_at (wl := wl) R hl hm F rk0 B hk h1
    exact ⟨x, q1, q2, q3⟩
theorem plan_no (R : Ring ws n out l l') (hl : (0 : Int) ∈ lot) (hm : ∀ k < n, ∀ z, ws[k]? = some z → (k ≠ out → mvf k = mvOn lot l z) ∧ (k = out → mvf k = some ("on" : Str))) (F : PlanF ws n n b mvf rk P) (rk0 : ∀ k < n, 0 ≤ rk k) (B : BOk b e0) : planB wl l' P = false := by
  cases hp : planB wl l' P with
  | false => rfl
  | true =>
    exfalso
    refine cyc_false (f := rk) R.n1 fun k hk => ?_
    obtain ⟨z, hz⟩ : ∃ z, ws[k]? = some z := ⟨_, List.getElem?_eq_getElem (by have := R.wl; omega)⟩
    obtain ⟨x, q1, q2, q3, q4⟩ := stand_at (wl := wl) R hl (fun k hk z hz => ⟨(hm k hk z hz).1, fun h => .inl ((hm k hk z hz).2 h)⟩) F rk0 B hk hz
    have h1 := List.all_eq_true.mp hp _ (lookup_mem (F.ent k hk z hz))
    rw [entB_at q1] at h1
    have h2 : shownB wl P x z ⟨b, mvf k, rk k⟩ = true := h1
    have noff : mvf k ≠ some ("off" : Str) := fun h => by
      by_cases ho : k = out
      · rw [(hm k hk z hz).2 ho] at h
        exact absurd h (by decide +kernel)
      · rw [(hm k hk z hz).1 ho] at h
        unfold mvOn at h
        split at h
        · split at h
          · exact absurd h (by decide +kernel)
          · cases h
        · cases h
    rw [q4, if_neg noff] at h2
    exact of_decide_eq_true h2
theorem plan_yes (R : Ring ws n out l l') (hl : (0 : Int) ∈ lot) (hm : ∀ k < n, ∀ z, ws[k]? = some z → (k ≠ out → mvf k = mvOn lot l z) ∧ (k = out → mvf k = some ("off" : Str))) (F : PlanF ws n n b mvf rk P) (hrk : ∀ k < n, rk k = 1 + ((out : Int) - (k : Int)) % (n : Int)) (B : BOk b e0)
    {e : Str} {v : Int} (he : ws[n]? = some e) (hwl : wl = [(e, v)]) (hv : Sml v) (hvb : ¬ v * b.2 < b.1 * 1) : planB wl l' P = true := by
  have ho := R.ho
  have rk0 : ∀ k < n, 0 ≤ rk k := fun k hk => by
    rw [hrk k hk, ring_mod ho hk]
    split <;> omega
  refine List.all_eq_true.mpr fun q hq => ?_
  obtain ⟨z, en⟩ := q
  have h := lookup_of (F.nd R.wd (Nat.le_refl _)) hq
  rcases F.all (Nat.le_refl _) h with ⟨h1, rfl⟩ | ⟨k, hk, h1, rfl⟩
  · rw [he] at h1
    cases h1
    obtain ⟨q1, q2, q3, q4⟩ := end_at (lot := lot) R F B he hwl hv hvb
    rw [entB_at q1]
    exact q4
  · obtain ⟨x, q1, q2, q3, q4⟩ := stand_at (wl := wl) R hl (fun k hk z hz => ⟨(hm k hk z hz).1, fun h => .inr ((hm k hk z hz).2 h)⟩) F rk0 B hk h1
    rw [entB_at q1]
    rw [q4]
    have r1 := hrk k hk
    rw [ring_mod ho hk] at r1
    split
    · refine decide_eq_true ?_
      rw [r1]
      split <;> omega
    · rename_i hno
      have nko : k ≠ out := fun h => hno ((hm k hk z h1).2 h)
      refine decide_eq_true ?_
      have him : (k + 1) % n < n := Nat.mod_lt _ (by omega)
      have r2 := hrk _ him
      rw [ring_mod ho him] at r2
      rw [r1, r2, ring_next hk]
      split <;> split <;> split <;> omega
end
/-- the bound of the law -/
theorem b_facts : ∀ e : Fin 19, ∀ d : Fin 12, ∀ g : Fin 3, let e0 : Int := (e.val : Int) - 9; let b := frN (e0 * 4 + 1 + (d.val : Int)) 4; let gap : Int := if g = 0 then 0 else if g = 1 then 1 else 5;
    -1000 ≤ b.1 ∧ b.1 ≤ 1000 ∧ 1 ≤ b.2 ∧ b.2 ≤ 4 ∧ Nat.gcd b.1.natAbs b.2.natAbs = 1 ∧ e0 * b.2 < b.1 * 1 ∧ -50 ≤ b.1 / b.2 ∧ b.1 / b.2 ≤ 50 ∧ ¬ (b.1 / b.2 + 1 + gap) * b.2 < b.1 * 1 ∧ e0 ≤ b.1 / b.2 + 1 + gap ∧ b.1 / b.2 + 1 + gap ≤ 60 ∧ (b.2 = 1 → ¬ b.1 * b.2 < b.1 * 1 ∧ e0 ≤ b.1 ∧ b.1 ≤ 60 ∧ -60 ≤ b.1) := by decide +kernel
/-! ### k20: the law -/
theorem lcR {D : Addr} {g : TG} {tt : TT} {te : TE} {vs : List Nat} {σ : L2.St} {H : Hp} {Qd : Hp → Prop} {m : Nat} (Pv : Nat → Hp → Prop) (h0 : Pv 0 (upd H D (.lst [])))
    (hs : ∀ i H, i < m → Pv i H → g (.int (i : Int)) (wipe σ vs) H fun σ2 H2 => wipe σ2 vs = wipe σ vs ∧ tt σ2 H2 fun b H3 =>
      if b = true then te σ2 H3 fun y H4 => ∃ acc, H4 D = some (.lst acc) ∧ acc.length < sizeLine ∧ Pv (i + 1) (upd H4 D (.lst (acc ++ [y]))) else Pv (i + 1) H3) (hd : ∀ H, Pv m H → Qd H) : LcP (Itr 0 m) g tt te vs σ D Qd H :=
  lc_by walk_range Pv h0 (fun _ _ _ _ => trivial) (fun i x H H' hi hp y => by
    obtain ⟨rfl, rfl⟩ := y
    dsimp only
    rw [Int.zero_add]
    exact hs i _ hi hp) hd
/-- both ends of an if go on alike -/
theorem if_join {α : Type} {c : TT} {t e : TS} {n : L2.St → Hp → Prop} {r : VK} {b k : L2.St → Hp → Prop} {σ : L2.St} {H : Hp} (S : α → Prop) (f : α → L2.St) (h : ∀ n' : L2.St → Hp → Prop, (∀ a, S a → n' (f a) H) → tIfS c t e ⟨n', r, b, k⟩ σ H) (hn : ∀ a, S a → n (f a) H) : tIfS c t e ⟨n, r, b, k⟩ σ H := h n hn
def mvIn (lot : List Int) : Sd → Bool
  | .hand k _ => decide (k ∈ lot)
  | _ => false
theorem mvOn_eq {lot : List Int} {l : List (Str × Sd)} {z : Str} {x : Sd} (h : l.lookup z = some x) : mvOn lot l z = if mvIn lot x = true then some ("on" : Str) else none := by
  unfold mvOn mvIn
  rw [h]
  cases x with
  | fin => rfl
  | chance _ => rfl
  | hand k l2 =>
    by_cases hk : k ∈ lot
    · show (if k ∈ lot then _ else _) = if decide (k ∈ lot) = true then _ else _
      rw [if_pos hk, if_pos (decide_eq_true hk)]
    · show (if k ∈ lot then _ else _) = if decide (k ∈ lot) = true then _ else _
      rw [if_neg hk, if_neg (by rw [decide_eq_false hk]; decide)]
theorem inV_non (ws : List Int) : inV .non (intsV ws) = false := by
  induction ws with
  | nil => rfl
  | cons a r ih => exact ih
theorem x_inMv {K : PySem.W.Frag} {H : Hp} {Q : VK} {p : Addr} {lot : List Int} {x : Sd} (h : SqT K H p (intsV lot)) (q : Q (.bl (mvIn lot x)) H) : rIn K false (moverV x) (.ref p) H Q := by
  cases x with
  | fin => exact ⟨p, _, rfl, .inr h, rfl, flat_ints lot, by show Q (.bl (inV .non (intsV lot))) H; rw [inV_non]; exact q⟩
  | chance _ => exact ⟨p, _, rfl, .inr h, rfl, flat_ints lot, by show Q (.bl (inV .non (intsV lot))) H; rw [inV_non]; exact q⟩
  | hand k _ => exact x_inTi h q
theorem RingI.good {ws : List Str} {n out : Nat} {l : List (Str × Sd)} (R : RingI ws n out n l) (wl : ws.length = n + 1) (wd : ws.Nodup) (wn : ∀ z ∈ ws, NameS z) (n1 : 1 ≤ n) (n8 : n ≤ 8) : GoodT 2 l := by
  obtain ⟨e, he, kl, lf⟩ := R.keys
  have hin : ∀ z, z ∈ l.map (·.1) ↔ z ∈ ws := fun z => by
    rw [kl]
    have ew : ws = ws.take n ++ [e] := by rw [← take_succ_get he, ← wl, List.take_length]
    constructor
    · intro h
      rcases List.mem_cons.mp h with rfl | h
      · exact List.mem_of_getElem? he
      · exact List.mem_of_mem_take h
    · intro h
      rw [ew] at h
      rcases List.mem_append.mp h with h | h
      · exact List.mem_cons_of_mem _ h
      · rw [List.mem_singleton.mp h]
        exact List.mem_cons_self
  have ll : l.length = n + 1 := by
    have := congrArg List.length kl
    rw [List.length_map, List.length_cons, List.length_take] at this
    omega
  refine ⟨?_, by omega, by omega, fun z hz => wn z ((hin z).mp hz), fun z x hx => ?_⟩
  · rw [kl]
    refine List.nodup_cons.mpr ⟨fun hm => ?_, wd.sublist (List.take_sublist _ _)⟩
    obtain ⟨j, hj, hje⟩ := List.getElem_of_mem hm
    have hj2 : j < n := by simp at hj; omega
    have h5 : ws[j]? = some e := by
      rw [List.getElem_take] at hje
      rw [List.getElem?_eq_getElem (by omega), hje]
    have := L2.nd_ix wd h5 he
    omega
  · have hz : z ∈ l.map (·.1) := List.mem_map.mpr ⟨_, lookup_mem hx, rfl⟩
    rw [kl] at hz
    rcases List.mem_cons.mp hz with rfl | hz
    · rw [lf] at hx
      cases hx
      trivial
    · obtain ⟨j, hj, hje⟩ := List.getElem_of_mem hz
      have hj2 : j < n := by simp at hj; omega
      have h5 : ws[j]? = some z := by
        rw [List.getElem_take] at hje
        rw [List.getElem?_eq_getElem (by omega), hje]
      have him : (j + 1) % n < n := Nat.mod_lt _ (by omega)
      obtain ⟨to, hto⟩ : ∃ z, ws[(j + 1) % n]? = some z := ⟨_, List.getElem?_eq_getElem (by omega)⟩
      obtain ⟨x2, hx2, hr⟩ := R.row j hj2 e z to he h5 hto
      rw [hx] at hx2
      cases hx2
      exact hr.good ((hin e).mpr (List.mem_of_getElem? he)) ((hin to).mpr (List.mem_of_getElem? hto))
theorem RingI.keysIn {ws : List Str} {n out : Nat} {l : List (Str × Sd)} (R : RingI ws n out n l) (wl : ws.length = n + 1) {z : Str} (h : z ∈ ws) : z ∈ l.map (·.1) := by
  obtain ⟨e, he, kl, lf⟩ := R.keys
  rw [kl]
  have ew : ws = ws.take n ++ [e] := by rw [← take_succ_get he, ← wl, List.take_length]
  rw [ew] at h
  rcases List.mem_append.mp h with h | h
  · exact List.mem_cons_of_mem _ h
  · rw [List.mem_singleton.mp h]
    exact List.mem_cons_self
theorem DictW.other {H : Hp} {A B : Addr} {P : List (Str × Ent)} {o : List (Key × V)} {v : HO} (h : DictW EntAt H A P) (hB : H B = some (.dK o)) (n : B ≠ A) : DictW EntAt (upd H B v) A P := by
  obtain ⟨m, h1, h2, h3⟩ := h.ex
  refine ⟨m, by rw [upd_ne n.symm]; exact h1, h2, fun z a hza => ?_⟩
  obtain ⟨e, he, hE⟩ := h3 z a hza
  refine ⟨e, he, ?_⟩
  rw [wo_upd_ne n]
  exact hE.upd (D := B) (by rw [wo_ne n]; exact hB) (fun xs e => by cases e)
theorem ent_put {H : Hp} {A : Addr} {P : List (Str × Ent)} {z : Str} {a : Addr} {x : Ent} {N : Hp → Prop} (h : DictW EntAt H A P) (hl : P.length ≤ 1000) (hx : EntAt (wo H A) a x) (q : ∀ H', (∃ u, H' = upd H A (.dK u)) → DictW EntAt H' A (putL P z x) → N H') : rDputA (.ref A) (.str z) (.ref a) H N := by
  obtain ⟨m, m1, m2, m3⟩ := h.ex
  have hml : m.length = P.length := by
    have := congrArg List.length m2
    rwa [List.length_map, List.length_map] at this
  exact x_putL (l := m) (x := a) m1 (by omega) rfl (q _ ⟨_, rfl⟩ (DictW.put m2 m3 hx))
theorem x_asgL {te : TE} {K : PySem.W.Frag} {k : Nat} {gs : TGs} {σ : L2.St} {H : Hp} {n : L2.St → Hp → Prop} {r : VK} {b c : L2.St → Hp → Prop} (h : te σ H fun v H1 => gLst K k gs v σ H1 n) : tAsg te (gLst K k gs) ⟨n, r, b, c⟩ σ H := h
theorem x_gl3 {K : PySem.W.Frag} {σ : L2.St} {H : Hp} {T : Addr} {v w u : V} {i j k : Nat} {N : L2.St → Hp → Prop} (ht : SqL K H T [v, w, u]) (h : N (((σ.set i (some v)).set j (some w)).set k (some u)) H) : gLst K 3 (gCons (gName i) (gCons (gName j) (gCons (gName k) gNil))) (.ref T) σ H N :=
  ⟨T, [v, w, u], rfl, ht, rfl, v, [w, u], rfl, w, [u], rfl, u, [], rfl, rfl, h⟩
structure VOk (b : Int × Int) (e0 v : Int) : Prop where
  sm : Sml v
  vb : ¬ v * b.2 < b.1 * 1
  ev : e0 ≤ v
  lo : -99 ≤ v
  hi : v ≤ 99
theorem b_clean {eo dd gap : Int} (e0 : 0 ≤ eo) (e1 : eo < 19) (d0 : 0 ≤ dd) (d1 : dd < 12) (hg : gap = 0 ∨ gap = 1 ∨ gap = 5) : BOk (frN ((eo - 9) * 4 + 1 + dd) 4) (eo - 9) ∧
    VOk (frN ((eo - 9) * 4 + 1 + dd) 4) (eo - 9) ((frN ((eo - 9) * 4 + 1 + dd) 4).1 / (frN ((eo - 9) * 4 + 1 + dd) 4).2 + 1 + gap) ∧ ((frN ((eo - 9) * 4 + 1 + dd) 4).2 = 1 → VOk (frN ((eo - 9) * 4 + 1 + dd) 4) (eo - 9) (frN ((eo - 9) * 4 + 1 + dd) 4).1) := by
  obtain ⟨E, hE⟩ : ∃ E : Fin 19, (E.val : Int) = eo := ⟨⟨eo.toNat, by omega⟩, by show ((eo.toNat : Nat) : Int) = eo; omega⟩
  obtain ⟨D, hD⟩ : ∃ D : Fin 12, (D.val : Int) = dd := ⟨⟨dd.toNat, by omega⟩, by show ((dd.toNat : Nat) : Int) = dd; omega⟩
  obtain ⟨G, hG⟩ : ∃ G : Fin 3, (if G = 0 then 0 else if G = 1 then 1 else 5 : Int) = gap := by
    rcases hg with rfl | rfl | rfl
    · exact ⟨0, rfl⟩
    · exact ⟨1, rfl⟩
    · exact ⟨2, rfl⟩
  obtain ⟨a1, a2, a3, a4, a5, a6, a7, a8, a9, a10, a11, a12⟩ := b_facts E D G
  rw [hE, hD] at a1 a2 a3 a4 a5 a6 a7 a8 a9 a10 a11 a12
  rw [hG] at a9 a10 a11
  refine ⟨⟨a1, a2, a3, a4, a5, ⟨by omega, by omega⟩, a6⟩, ⟨⟨by omega, by omega⟩, a9, a10, by omega, by omega⟩, fun h => ?_⟩
  obtain ⟨c1, c2, c3, c4⟩ := a12 h
  exact ⟨⟨by omega, by omega⟩, c1, c2, by omega, by omega⟩
/-- the plan's dict with the end's entry alone -/
theorem one_plan {H : Hp} {A ta pb : Addr} {e : Str} {b : Int × Int} (hA : H A = none) (ht : (upd H A (.dK [])) ta = none) (hf : FrAt H pb b) :
    L2.Same H (upd (upd (upd H A (.dK [])) ta (.tup [.ref pb, .non, .int 0])) A (.dK [(Sum.inr e, .ref ta)])) ∧ DictW EntAt (upd (upd (upd H A (.dK [])) ta (.tup [.ref pb, .non, .int 0])) A (.dK [(Sum.inr e, .ref ta)])) A [(e, ⟨b, none, 0⟩)] := by
  have nAt : A ≠ ta := ne_of_none upd_same ht
  have nAp : pb ≠ A := ne_of_none (show H pb = some _ from hf) hA
  have hp1 : (upd H A (.dK [])) pb = some (.tup [.int b.1, .int b.2]) := by rw [upd_ne nAp]; exact hf
  refine ⟨same_upd ((same_new hA).trans (same_new ht)) hA, [(e, ta)], upd_same, rfl, fun z a hza => ?_⟩
  cases List.mem_singleton.mp hza
  refine ⟨⟨b, none, 0⟩, by simp [List.lookup], pb, ?_, ?_⟩
  · rw [wo_ne nAt.symm, upd_ne nAt.symm, upd_same]
    rfl
  · show wo _ A pb = _
    rw [wo_ne nAp, upd_ne nAp, upd_ne (ne_of_none hp1 ht)]
    exact hp1
theorem plan_one {ws : List Str} {n : Nat} {b : Int × Int} {mvf : Nat → Option Str} {rk : Nat → Int} {e : Str} (he : ws[n]? = some e) : PlanF ws n 0 b mvf rk [(e, ⟨b, none, 0⟩)] := ⟨⟨e, he, by simp, by simp [List.lookup]⟩, fun k hk => absurd hk (Nat.not_lt_zero _)⟩
theorem PlanF.len {ws : List Str} {n i : Nat} {b : Int × Int} {mvf : Nat → Option Str} {rk : Nat → Int} {P : List (Str × Ent)} (F : PlanF ws n i b mvf rk P) (hi : i ≤ 10) : P.length ≤ 1000 := by
  obtain ⟨e, he, kl, _⟩ := F.keys
  have := congrArg List.length kl
  rw [List.length_map, List.length_cons, List.length_take] at this
  omega
def spLaw (K : PySem.W.Frag) : Sp := fun vs H Q _ => ∃ (a : Addr) (ns : List Int), vs = [.ref a] ∧ SqL K H a (intsV ns) ∧ ns.length ≤ 63 ∧ ∀ H', Q (.bl true) H'
section
variable {P : Program} {w : World} {K : PySem.W.Frag} {mg : Str → Option Value} {base : Heap} {C CW : Addr}
theorem ok_law {f : Addr} {fd : FuncData} (F : Fun K "law" "law" s_law f fd) (Z_range : mg "range" = none)
    (C_pool : Cal P w K mg base 1 "_law_pool" ["_law_script"] (spPool K)) (C_draw : Cal P w K mg base 1 "_law_draw" ["_law_pool_here", "_law_many"] spDraw) (C_l_frac : Cal P w K mg base 2 "_law_frac" ["_law_top", "_law_bottom"] spFrac)
    (C_l_round : Cal P w K mg base 4 "_law_round" ["_law_pool_here", "_law_many"] spRound) (C_l_copy : Cal P w K mg base 1 "_law_copy" ["_law_stands"] spCopyL) (C_l_mover : Cal P w K mg base 1 "_law_mover" ["_law_stands", "_law_name"] spMoverL)
    (M_Work : Mkc P w K mg base CW 5 "Work" ["self", "hands", "start", "stands"] (spWorkInit CW)) (M_Wish : Mkc P w K mg base C 4 "Wish" ["self", "worths", "endless"] (spWishInit C))
    (C_is_plan : Cal P w K mg base 7 "is_plan" ["work", "wish", "lot", "thing"] (spPlan K CW C)) : FnOk P w K mg base CX0 8 f fd ["_law_script"] (spLaw K) := by
  refine F.ok sc_law (fun vs H Q E h => ?_) (fun cdv A outer s H vs Q E hr h => ?_)
  · obtain ⟨_, _, rfl, _⟩ := h
    rfl
  · obtain ⟨sa, ns, rfl, hS, hlen, k⟩ := h
    have hu := hu_of hr
    refine ⟨_, (pss_cons (ps_set (i := 1) sc_law.nd rfl (Or.inr rfl) (pe_cal C_pool (hr.mono (by decide)) (by rfl) (pa_cons (pv 0) pa_nil)))
      (pss_cons (ps_set (i := 2) sc_law.nd rfl (Or.inr rfl) (pe_op op_add pe_int (pe_cal C_draw (hr.mono (by decide)) (by rfl) (pa_cons (pv 1) (pa_cons pe_int pa_nil)))))
      (pss_cons (ps_set (i := 3) sc_law.nd rfl (Or.inl rfl) (pe_ix ix_list (pe_lst (pa_cons (pe_tup (pa_cons pe_int pa_nil)) (pa_cons (pe_tup (pa_cons pe_int (pa_cons pe_int pa_nil))) pa_nil))) (pe_cal C_draw (hr.mono (by decide)) (by rfl) (pa_cons (pv 1) (pa_cons pe_int pa_nil))) (fun _ _ => rfl)))
      (pss_cons (ps_set (i := 4) sc_law.nd rfl (Or.inl rfl) (pe_ix ix_list (pe_lst (pa_cons pe_int (pa_cons pe_int (pa_cons pe_int (pa_cons pe_int pa_nil))))) (pe_cal C_draw (hr.mono (by decide)) (by rfl) (pa_cons (pv 1) (pa_cons pe_int pa_nil))) (fun _ _ => rfl)))
      (pss_cons (ps_set (i := 5) sc_law.nd rfl (Or.inl rfl) (pe_op op_sub (pe_cal C_draw (hr.mono (by decide)) (by rfl) (pa_cons (pv 1) (pa_cons pe_int pa_nil))) pe_int))
      (pss_cons (ps_set (i := 6) sc_law.nd rfl (Or.inl rfl) (pe_cal C_l_frac (hr.mono (by decide)) (by rfl) (pa_cons (pe_op op_add (pe_op op_add (pe_op op_mulA (pv 5) pe_int) pe_int) (pe_cal C_draw (hr.mono (by decide)) (by rfl) (pa_cons (pv 1) (pa_cons pe_int pa_nil)))) (pa_cons pe_int pa_nil))))
      (pss_cons (ps_setLc (i := 7) (own := [("_law_k", 16)]) (g := gName 16) (tt := tYes) (by rfl) sc_law.nd rfl rfl (sw_true rfl rfl rfl (by decide +kernel)) (pi_range1 rfl Z_range (pa_cons (pv 2) pa_nil)) (blkOk_by (own := [("_law_k", 16)]) (N := N_law) (sc := defScope s_law) (by decide +kernel)) (fun _ _ _ _ _ => (pg_name (i := 16) sc_law.nd rfl (Or.inl rfl))) (fun _ _ _ _ _ => pts_nil) (fun _ _ _ _ _ => by exact (pe_cal C_draw (hr.mono (by decide)) (by rfl) (pa_cons (pv 1) (pa_cons (pe_op op_add (pv 2) pe_int) pa_nil)))))
      (pss_cons (ps_asg (pe_cal C_l_round (hr.mono (by decide)) (by rfl) (pa_cons (pv 1) (pa_cons (pv 2) pa_nil))) (pg_lst (n := 3) rfl (pgs_cons (pg_name (i := 8) sc_law.nd rfl (Or.inl rfl)) (pgs_cons (pg_name (i := 9) sc_law.nd rfl (Or.inl rfl)) (pgs_cons (pg_name (i := 10) sc_law.nd rfl (Or.inl rfl)) pgs_nil)))))
      (pss_cons (ps_set (i := 11) sc_law.nd rfl (Or.inl rfl) (pe_op op_add (pe_op op_add (pe_op op_fdivA (pe_ix ix_tup (pv 6) pe_int (fun _ _ => rfl)) (pe_ix ix_tup (pv 6) pe_int (fun _ _ => rfl))) pe_int) (pv 4)))
      (pss_cons (ps_if (PW.pt (pw_and (pt_cmpR op_eq (pe_ix ix_tup (pv 6) pe_int (fun _ _ => rfl)) pe_int (nomark _)) (pw_and1 (pt_cmpR op_eq (pv 4) pe_int (nomark _)))))
      (pss_one (ps_set (i := 11) sc_law.nd rfl (Or.inl rfl) (pe_ix ix_tup (pv 6) pe_int (fun _ _ => rfl))))
      pss_nil)
      (pss_cons (ps_set (i := 12) sc_law.nd rfl (Or.inl rfl) (pe_mk M_Work (hr.mono (by decide)) (by rfl) (pa_cons pe_int (pa_cons (pe_ix ix_list (pv 8) pe_int (fun _ _ => rfl)) (pa_cons (pe_cal C_l_copy (hr.mono (by decide)) (by rfl) (pa_cons (pv 10) pa_nil)) pa_nil)))))
      (pss_cons (ps_set (i := 13) sc_law.nd rfl (Or.inl rfl) (pe_mk M_Wish (hr.mono (by decide)) (by rfl) (pa_cons (pe_disp (pps_cons (pe_ix ix_list (pv 8) (pv 2) (fun _ _ => rfl)) (pv 11) pps_nil) (by rfl) (by rfl) (fun z => by cases z) (by decide)) (pa_cons (pv 5) pa_nil))))
      (pss_cons (ps_set (i := 14) sc_law.nd rfl (Or.inl rfl) (pe_disp (pps_cons (pe_ix ix_list (pv 8) (pv 2) (fun _ _ => rfl)) (pe_tup (pa_cons (pv 6) (pa_cons pe_non (pa_cons pe_int pa_nil)))) pps_nil) (by rfl) (by rfl) (fun z => by cases z) (by decide)))
      (pss_cons (ps_set (i := 15) sc_law.nd rfl (Or.inl rfl) (pe_disp (pps_cons (pe_ix ix_list (pv 8) (pv 2) (fun _ _ => rfl)) (pe_tup (pa_cons (pv 6) (pa_cons pe_non (pa_cons pe_int pa_nil)))) pps_nil) (by rfl) (by rfl) (fun z => by cases z) (by decide)))
      (pss_cons (ps_for PassesOwn.never rfl (pi_range1 rfl Z_range (pa_cons (pv 2) pa_nil)) (pg_name (i := 16) sc_law.nd rfl (Or.inl rfl))
      (pss_cons (ps_set (i := 17) sc_law.nd rfl (Or.inl rfl) pe_non)
      (pss_cons (ps_if (pt_cmpR op_in_seq (pe_cal C_l_mover (hr.mono (by decide)) (by rfl) (pa_cons (pv 10) (pa_cons (pe_ix ix_list (pv 8) (pv 16) (fun _ _ => rfl)) pa_nil))) (pv 3) rfl)
      (pss_one (ps_set (i := 17) sc_law.nd rfl (Or.inl rfl) pe_str))
      pss_nil)
      (pss_cons (ps_dput hu (pv 14) (pe_ix ix_list (pv 8) (pv 16) (fun _ _ => rfl)) (pe_tup (pa_cons (pv 6) (pa_cons (pv 17) (pa_cons (pe_ix ix_list (pv 7) (pv 16) (fun _ _ => rfl)) pa_nil)))) rfl)
      (pss_one (ps_dput hu (pv 15) (pe_ix ix_list (pv 8) (pv 16) (fun _ _ => rfl)) (pe_tup (pa_cons (pv 6) (pa_cons (pv 17) (pa_cons (pe_op op_add pe_int (pe_op op_mod (pe_op op_sub (pv 9) (pv 16)) (pv 2))) pa_nil)))) rfl))))))
      (pss_cons (ps_if (pt_cmpR op_notBl (pe_cal C_is_plan (hr.mono (by decide)) (by rfl) (pa_cons (pv 12) (pa_cons (pv 13) (pa_cons (pv 3) (pa_cons (pv 14) pa_nil))))) pe_bl (nomark _))
      (pss_one (ps_ret pe_bl))
      pss_nil)
      (pss_cons (ps_dput hu (pv 15) (pe_ix ix_list (pv 8) (pv 9) (fun _ _ => rfl)) (pe_tup (pa_cons (pv 6) (pa_cons pe_str (pa_cons pe_int pa_nil)))) rfl)
      (pss_one (ps_ret (pe_cmpR op_isBl (pe_cal C_is_plan (hr.mono (by decide)) (by rfl) (pa_cons (pv 12) (pa_cons (pv 13) (pa_cons (pv 3) (pa_cons (pv 15) pa_nil))))) pe_bl (nomark _))))))))))))))))))))), ?_⟩
    walk_at "go"
    refine ⟨sa, ns, rfl, hS, hlen, fun H1 p s1 hp0 hp1 => ?_⟩
    walk_at "go"
    refine ⟨p, 8, rfl, hp1, by decide, by decide, fun H2 mm b2 p2 m0 m1 => ?_⟩
    obtain ⟨n, hn, n1, n8⟩ : ∃ n : Nat, (1 + mm : Int) = (n : Int) ∧ 1 ≤ n ∧ n ≤ 8 := ⟨(1 + mm).toNat, by omega, by omega, by omega⟩
    refine x_I0 ?_
    rw [hn]
    walk_at "go"
    refine ⟨sz_le (by simp), fun t0 ht0 => ?_⟩
    walk_at "go"
    refine ⟨sz_le (by simp), fun t1 ht1 => ?_⟩
    walk_at "go"
    refine ⟨sz_le (by simp), fun ta hta => ?_⟩
    have p3 := ((p2.new (o := .tup [.int 0]) ht0).new (o := .tup [.int 0, .int 1]) ht1).new (o := .lst [.ref t0, .ref t1]) hta
    have q0 : (upd (upd (upd H2 t0 (.tup [.int 0])) t1 (.tup [.int 0, .int 1])) ta (.lst [.ref t0, .ref t1])) t0 = some (.tup [.int 0]) := by
      rw [upd_ne (ne_of_none (show (upd (upd H2 t0 (.tup [.int 0])) t1 (.tup [.int 0, .int 1])) t0 = some _ from by rw [upd_ne (ne_of_none upd_same ht1), upd_same]) hta), upd_ne (ne_of_none upd_same ht1), upd_same]
    have q1 : (upd (upd (upd H2 t0 (.tup [.int 0])) t1 (.tup [.int 0, .int 1])) ta (.lst [.ref t0, .ref t1])) t1 = some (.tup [.int 0, .int 1]) := by
      rw [upd_ne (ne_of_none upd_same hta), upd_same]
    have qa : (upd (upd (upd H2 t0 (.tup [.int 0])) t1 (.tup [.int 0, .int 1])) ta (.lst [.ref t0, .ref t1])) ta = some (.lst [.ref t0, .ref t1]) := upd_same
    generalize upd (upd (upd H2 t0 (.tup [.int 0])) t1 (.tup [.int 0, .int 1])) ta (.lst [.ref t0, .ref t1]) = H3 at p3 q0 q1 qa ⊢
    have n0 : t0 ≠ p := p2.ne ht0
    have n1p : t1 ≠ p := fun e => by
      obtain ⟨ms, e1, _⟩ := p3
      rw [← e, q1] at e1
      cases e1
    have nap : ta ≠ p := fun e => by
      rw [e] at hta
      obtain ⟨ms, e1, _⟩ := (p2.new (o := .tup [.int 0]) ht0).new (o := .tup [.int 0, .int 1]) ht1
      rw [hta] at e1
      cases e1
    walk_at "go"
    refine ⟨p, 2, rfl, p3, by decide, by decide, fun H4 j b4 p4 j0 j1 => ?_⟩
    obtain ⟨lo, lot, hlo0, hlo, hlot, nlo⟩ : ∃ lo lot, [V.ref t0, V.ref t1][j.toNat]? = some (.ref lo) ∧ H4 lo = some (.tup (intsV lot)) ∧ (lot = [0] ∨ lot = [0, 1]) ∧ lo ≠ p := by
      have : j = 0 ∨ j = 1 := by omega
      rcases this with rfl | rfl
      · exact ⟨t0, [0], rfl, b4 _ _ q0 n0, .inl rfl, n0⟩
      · exact ⟨t1, [0, 1], rfl, b4 _ _ q1 n1p, .inr rfl, n1p⟩
    have h0l : (0 : Int) ∈ lot := by rcases hlot with rfl | rfl <;> simp
    refine x_ixl j.toNat (SqL.of (b4 _ _ qa nap)) (by omega) hlo0 ?_
    walk_at "go"
    refine ⟨sz_le (by simp), fun lg hlg => ?_⟩
    have p5 := p4.new (o := .lst [.int 0, .int 0, .int 1, .int 5]) hlg
    have hlo5 : (upd H4 lg (.lst [.int 0, .int 0, .int 1, .int 5])) lo = _ := (upd_ne (ne_of_none hlo hlg)).trans hlo
    walk_at "go"
    refine ⟨p, 4, rfl, p5, by decide, by decide, fun H5 gj b5 p6 g0 g1 => ?_⟩
    have hlg5 := b5 lg _ upd_same (p4.ne hlg)
    have hlo6 := b5 lo _ hlo5 nlo
    obtain ⟨gap, hgap, hgm⟩ := pickI [0, 0, 1, 5] g0 g1
    have hg3 : gap = 0 ∨ gap = 1 ∨ gap = 5 := by simp at hgm; omega
    refine x_ixl gj.toNat (SqL.of hlg5) (by omega) hgap ?_
    walk_at "go"
    refine ⟨p, 19, rfl, p6, by decide, by decide, fun H6 eo b6 p7 e0 e1 => ?_⟩
    have hlo7 := b6 lo _ hlo6 nlo
    walk_at "go"
    refine ⟨p, 12, rfl, p7, by decide, by decide, fun H7 dd b7 p8 d0 d1 => ?_⟩
    have hlo8 := b7 lo _ hlo7 nlo
    walk_at "go"
    refine ⟨(eo - 9) * 4 + 1 + dd, 4, rfl, ⟨by omega, by omega⟩, by decide, ⟨by decide, by decide⟩, fun H8 pb s8 hpb hfr => ?_⟩
    obtain ⟨B, W1, W2⟩ := b_clean e0 e1 d0 d1 hg3
    generalize frN ((eo - 9) * 4 + 1 + dd) 4 = b at B W1 W2 hfr
    have p9 := p8.same s8
    have hlo9 := s8 _ _ hlo8
    have npb : pb ≠ p := p8.ne hpb
    have e90 : -9 ≤ eo - 9 := by omega
    have e91 : eo - 9 ≤ 9 := by omega
    generalize eo - 9 = e9 at B W1 W2 e90 e91 ⊢
    walk_at "go"
    refine runR ⟨by omega, by omega⟩ ?_
    intro D hD
    have nDp : D ≠ p := p9.ne hD
    refine lcR (fun i H' => But p H8 H' ∧ PoolAt H' p ∧ ∃ rks : List Int, H' D = some (.lst (intsV rks)) ∧ rks.length = i ∧ ∀ r ∈ rks, 0 ≤ r) ⟨But.of_same (same_new hD), p9.new hD, [], upd_same, rfl, fun _ h => by cases h⟩ ?_ ?_
    · rintro i H9 hi ⟨b9, p10, rks, hD9, hrl, hr0⟩
      rw [Int.toNat_natCast] at hi
      walk_at "go"
      refine ⟨rfl, ?_⟩
      walk_at "go"
      refine ⟨p, (n : Int) + 3, rfl, p10, by omega, by omega, fun H10 r b10 p11 r0 r1 => ?_⟩
      refine ⟨_, b10 D _ hD9 nDp, sz_lt (by rw [List.length_map]; omega), fun b o hb nb => ?_, p11.upd nDp.symm, rks ++ [r], by rw [upd_same]; simp, by rw [List.length_append, hrl]; rfl, fun x hx => ?_⟩
      · rw [upd_ne (ne_of_none hb hD)]
        exact (b9.trans b10) b o hb nb
      · rcases List.mem_append.mp hx with h | h
        · exact hr0 x h
        · rw [List.mem_singleton.mp h]
          exact r0
    · rintro H9 ⟨b9, p10, rks, hD9, hrl, hr0⟩
      rw [Int.toNat_natCast] at hrl
      walk_at "go"
      refine x_asgL ?_
      walk_at "go"
      refine ⟨p, n, rfl, p10, n1, n8, fun H10 r q DS ws out l b10 hr1 hq wl wn wd hT ho RI => ?_⟩
      refine x_gl3 (SqL.of hr1) ?_
      have hlo10 := b10 lo _ (b9 lo _ hlo9 nlo) nlo
      have hfr10 : FrAt H10 pb b := b10 pb _ (b9 pb _ hfr npb) npb
      have hrk := b10 D _ hD9 nDp
      have g := RI.good wl wd wn n1 n8
      have hB3 := B.b3
      have hB1 := B.b1
      have hB2 := B.b2
      have hB4 := B.b4
      obtain ⟨e, he⟩ : ∃ e, ws[n]? = some e := ⟨_, List.getElem?_eq_getElem (by omega)⟩
      have hev : (strsV ws)[n]? = some (.str e) := by rw [List.getElem?_map, he]; rfl
      obtain ⟨z0, hz0⟩ : ∃ z, ws[0]? = some z := ⟨_, List.getElem?_eq_getElem (by omega)⟩
      have hzv0 : (strsV ws)[0]? = some (.str z0) := by rw [List.getElem?_map, hz0]; rfl
      clear hpb hD hD9 hfr hlo9 hlo8 hlo7 hlo6 hlo5 hlg5 hlo hlo0 b9 b10 p10 p9 p8 p7 p6 p5 b7 b6 b5 b4 p4 p3 q0 q1 qa hlg hta ht1 ht0 b2 p2 s1 hp0 hp1 s8 hgap hgm
      walk_at "go"
      refine x_ixt 0 (SqT.of (show H10 pb = _ from hfr10)) rfl rfl ?_
      walk_at "go"
      refine x_ixt 1 (SqT.of (show H10 pb = _ from hfr10)) rfl rfl ?_
      refine x_I (by walk_at "cond") ?_
      refine x_c ?_
      refine x_I0 ?_
      refine x_var rfl ?_
      refine x_I0 ?_
      refine x_seq ?_
      refine if_join (α := Int) (fun v => VOk b e9 v) (fun v => [some (.ref sa), some (.ref p), some (.int n), some (.ref lo), some (.int gap), some (.int e9), some (.ref pb), some (.ref D), some (.ref q), some (.int out), some (.ref DS), some (.int v), none, none, none, none, none, none]) (fun n' hn' => ?_) (fun v hv => ?_)
      · walk_at "go"
        refine x_ixt 1 (SqT.of (show H10 pb = _ from hfr10)) rfl rfl ?_
        walk_at "go"
        refine x_dec (fun h1 => ?_) (fun h1 => ?_)
        · walk_at "go"
          refine x_dec (fun h2 => ?_) (fun h2 => ?_)
          · walk_at "go"
            refine x_ixt 0 (SqT.of (show H10 pb = _ from hfr10)) rfl rfl ?_
            exact hn' _ (W2 h1)
          · walk_at "go"
            exact hn' _ W1
        · walk_at "go"
          exact hn' _ W1
      · walk_at "go"
        refine x_ixl 0 (SqL.of hq) rfl hzv0 ?_
        walk_at "go"
        refine ⟨DS, l, 2, _, rfl, hT, g.nd, by have := g.l2; omega, g.sd, fun H11 F1 s11 hF hT1 => ?_⟩
        walk_at "go"
        intro x dx nx ndx ne
        have s12 : L2.Same H11 (upd (upd H11 dx (.own x)) x (.ins CW dx [])) := fun b o e => by
          rw [upd_ne (ne_of_none e nx), upd_ne (ne_of_none e ndx)]
          exact e
        refine ⟨x, F1, dx, 2, z0, l, rfl, upd_same, hT1.same s12, g, by decide, by decide, RI.keysIn wl (List.mem_of_getElem? hz0), fun H13 l' kp T wa => ⟨rfl, ?_⟩⟩
        have s13 : L2.Same H10 H13 := s11.trans (same_made (L2.Same.refl _) nx ndx kp)
        walk_at "go"
        refine x_disp fun d hd => x_prs ?_
        walk_at "go"
        refine x_ixl n (SqL.of ((s13.trans (same_new hd)) _ _ hq)) rfl hev ?_
        walk_at "go"
        refine x_prs0 ⟨upd_same, [(Sum.inr e, .int v)], rfl, by simp, ?_⟩
        rw [merge1, upd_upd]
        walk_at "go"
        intro y dy ny ndy ney
        have hd2 : (upd (upd (upd H13 d (.dK [(Sum.inr e, .int v)])) dy (.own y)) y (.ins C dy [])) d = some (.dK (strK V.int [(e, v)])) := by
          rw [upd_ne (ne_of_none upd_same ny), upd_ne (ne_of_none upd_same ndy), upd_same]
          rfl
        have GW : GoodW [(e, v)] e9 := ⟨by simp, by simp, fun q hq => by
          rw [List.mem_singleton.mp hq]
          exact wn e (List.mem_of_getElem? he), fun q hq => by
          rw [List.mem_singleton.mp hq]
          exact ⟨hv.lo, hv.hi⟩, ⟨by omega, by omega⟩, .inl fun q hq => by
          rw [List.mem_singleton.mp hq]
          exact hv.ev⟩
        refine ⟨y, d, dy, e9, [(e, v)], rfl, upd_same, hd2, GW, fun H15 kp2 WA => ⟨rfl, ?_⟩⟩
        have s15 : L2.Same H13 H15 := same_made (same_new hd) ny ndy kp2
        have s1015 := s13.trans s15
        have wa15 := wa.same s15
        obtain ⟨dw, t, lw, hw, ht, hpw, _⟩ := WA.ex
        have ec : comingB [(e, v)] e9 = true := by
          show (decide (e9 ≤ v) && true) = true
          rw [decide_eq_true hv.ev]
          rfl
        rw [ec] at hw
        rw [List.perm_singleton.mp hpw] at ht
        have hq15 := s1015 _ _ hq
        have hfr15 : FrAt H15 pb b := s1015 _ _ hfr10
        have hlo15 := s1015 _ _ hlo10
        have hrk15 := s1015 _ _ hrk
        have hT15 := hT.same s1015
        have R : Ring ws n out l l' := ⟨wl, wd, n1, ho, RI, T, g⟩
        clear kp2 kp hd2 GW WA s15 s1015 wa hT1 s12 s13 s11 hd hF ny ndy nx ndx hq hfr10 hlo10 hrk hT hr1
        walk_at "go"
        refine x_disp fun A hA => x_prs ?_
        walk_at "go"
        refine x_ixl n (SqL.of (same_new hA _ _ hq15)) rfl hev ?_
        walk_at "go"
        refine ⟨sz_le (by simp), fun ta hta => ?_⟩
        refine x_prs0 ⟨by rw [upd_ne (ne_of_none upd_same hta), upd_same], [(Sum.inr e, .ref ta)], rfl, by simp, ?_⟩
        rw [merge1]
        obtain ⟨sA, DA⟩ := one_plan (e := e) hA hta hfr15
        have hAA := DA.ex
        generalize upd (upd (upd H15 A (.dK [])) ta (.tup [.ref pb, .non, .int 0])) A (.dK [(Sum.inr e, .ref ta)]) = H16 at sA DA hAA ⊢
        walk_at "go"
        refine x_disp fun A2 hA2 => x_prs ?_
        walk_at "go"
        refine x_ixl n (SqL.of (same_new hA2 _ _ (sA _ _ hq15))) rfl hev ?_
        walk_at "go"
        refine ⟨sz_le (by simp), fun tb htb => ?_⟩
        refine x_prs0 ⟨by rw [upd_ne (ne_of_none upd_same htb), upd_same], [(Sum.inr e, .ref tb)], rfl, by simp, ?_⟩
        rw [merge1]
        obtain ⟨sB, DB⟩ := one_plan (e := e) hA2 htb (show FrAt H16 pb b from sA _ _ hfr15)
        have hA20 : H15 A2 = none := sA.free hA2
        obtain ⟨m0A, hm0A, _⟩ := hAA
        have nAB : A ≠ A2 := ne_of_none hm0A hA2
        have DA2 := DA.same monoE sB
        have s17 := sA.trans sB
        generalize upd (upd (upd H16 A2 (.dK [])) tb (.tup [.ref pb, .non, .int 0])) A2 (.dK [(Sum.inr e, .ref tb)]) = H17 at s17 DA2 DB ⊢
        clear sA sB hm0A DA hta htb hA2
        walk_at "go"
        refine lpR (fun i σ H' => ∃ v16 v17 PA PB, σ = [some (.ref sa), some (.ref p), some (.int n), some (.ref lo), some (.int gap), some (.int e9), some (.ref pb), some (.ref D), some (.ref q), some (.int out), some (.ref DS), some (.int v), some (.ref x), some (.ref y), some (.ref A), some (.ref A2), v16, v17] ∧
          L2.Same H15 H' ∧ DictW EntAt H' A PA ∧ DictW EntAt H' A2 PB ∧ PlanF ws n i b (fun k => mvOn lot l (ws.getD k ("" : Str))) (fun k => rks.getD k 0) PA ∧ PlanF ws n i b (fun k => mvOn lot l (ws.getD k ("" : Str))) (fun k => 1 + ((out : Int) - (k : Int)) % (n : Int)) PB) ⟨by omega, by omega⟩ ?_ ?_ ?_
        · exact ⟨_, _, _, _, rfl, s17, DA2, DB, plan_one he, plan_one he⟩
        · rintro i σ H18 hi ⟨v16, v17, PA, PB, rfl, s18, WA, WB, FA, FB⟩
          rw [Int.toNat_natCast] at hi
          obtain ⟨z, hz⟩ : ∃ z, ws[i]? = some z := ⟨_, List.getElem?_eq_getElem (by omega)⟩
          have hzv : (strsV ws)[i]? = some (.str z) := by rw [List.getElem?_map, hz]; rfl
          have egd : ws.getD i ("" : Str) = z := by rw [List.getD_eq_getElem?_getD, hz]; rfl
          obtain ⟨rk, hrki⟩ : ∃ r, rks[i]? = some r := ⟨_, List.getElem?_eq_getElem (by omega)⟩
          have hrkv : (intsV rks)[i]? = some (.int rk) := by rw [List.getElem?_map, hrki]; rfl
          have erd : rks.getD i 0 = rk := by rw [List.getD_eq_getElem?_getD, hrki]; rfl
          obtain ⟨xs, hxs⟩ := lookup_isSome (RI.keysIn wl (List.mem_of_getElem? hz))
          have emv := mvOn_eq (lot := lot) hxs
          refine x_g1 ?_
          refine x_seq ?_
          refine x_set ?_
          refine x_c ?_
          refine x_seq ?_
          refine if_join (α := Option Str) (fun m => m = mvOn lot l z) (fun m => [some (.ref sa), some (.ref p), some (.int n), some (.ref lo), some (.int gap), some (.int e9), some (.ref pb), some (.ref D), some (.ref q), some (.int out), some (.ref DS), some (.int v), some (.ref x), some (.ref y), some (.ref A), some (.ref A2), some (.int i), some (mvV m)]) (fun n' hn' => ?_) (fun m hm => ?_)
          · walk_at "go"
            refine x_ixl i (SqL.of (s18 _ _ hq15)) rfl hzv ?_
            walk_at "go"
            refine ⟨DS, z, l, xs, rfl, hT15.same s18, hxs, ?_⟩
            walk_at "go"
            refine x_inMv (SqT.of (s18 _ _ hlo15)) ?_
            walk_at "go"
            refine x_ite (fun hin => ?_) (fun hin => ?_)
            · walk_at "go"
              exact hn' (some ("on" : Str)) (by rw [emv, if_pos hin])
            · walk_at "go"
              exact hn' none (by rw [emv, if_neg (by rw [hin]; decide)])
          · walk_at "go"
            refine x_ixl i (SqL.of (s18 _ _ hrk15)) rfl hrkv ?_
            walk_at "go"
            refine ⟨sz_le (by simp), fun a1 ha1 => ?_⟩
            have s19 : L2.Same H18 (upd H18 a1 (.tup [.ref pb, mvV m, .int rk])) := same_new ha1
            have nA1 : a1 ≠ A := fun e => by
              obtain ⟨m, h1, _⟩ := WA.ex
              rw [← e, ha1] at h1
              cases h1
            have E1 : EntAt (wo (upd H18 a1 (.tup [.ref pb, mvV m, .int rk])) A) a1 ⟨b, m, rk⟩ := by
              have npA : pb ≠ A := ne_of_none (show H15 pb = some _ from hfr15) hA
              refine ⟨pb, by rw [wo_ne nA1, upd_same], ?_⟩
              show wo _ A pb = _
              rw [wo_ne npA]
              exact s19 _ _ (s18 _ _ hfr15)
            walk_at "go"
            refine x_ixl i (SqL.of (s19 _ _ (s18 _ _ hq15))) rfl hzv ?_
            refine ent_put (WA.same monoE s19) (FA.len (by omega)) E1 fun H20 hu2 WA2 => ?_
            obtain ⟨u, rfl⟩ := hu2
            have WB2 : DictW EntAt (upd (upd H18 a1 (.tup [.ref pb, mvV m, .int rk])) A (.dK u)) A2 PB := by
              obtain ⟨mA, hmA, _⟩ := (WA.same monoE s19).ex
              exact (WB.same monoE s19).other hmA nAB
            have s20 : L2.Same H15 (upd (upd H18 a1 (.tup [.ref pb, mvV m, .int rk])) A (.dK u)) := same_upd (s18.trans s19) hA
            generalize upd (upd H18 a1 (.tup [.ref pb, mvV m, .int rk])) A (.dK u) = H20 at WA2 WB2 s20 ⊢
            walk_at "go"
            refine ⟨sz_le (by simp), fun a2 ha2 => ?_⟩
            have s21 : L2.Same H20 (upd H20 a2 (.tup [.ref pb, mvV m, .int (1 + ((out : Int) - (i : Int)) % (n : Int))])) := same_new ha2
            have nA2 : a2 ≠ A2 := fun e => by
              obtain ⟨m, h1, _⟩ := WB2.ex
              rw [← e, ha2] at h1
              cases h1
            have E2 : EntAt (wo (upd H20 a2 (.tup [.ref pb, mvV m, .int (1 + ((out : Int) - (i : Int)) % (n : Int))])) A2) a2 ⟨b, m, 1 + ((out : Int) - (i : Int)) % (n : Int)⟩ := by
              have npA : pb ≠ A2 := ne_of_none (show H15 pb = some _ from hfr15) hA20
              refine ⟨pb, by rw [wo_ne nA2, upd_same], ?_⟩
              show wo _ A2 pb = _
              rw [wo_ne npA]
              exact s21 _ _ (s20 _ _ hfr15)
            walk_at "go"
            refine x_ixl i (SqL.of (s21 _ _ (s20 _ _ hq15))) rfl hzv ?_
            refine ent_put (WB2.same monoE s21) (FB.len (by omega)) E2 fun H22 hu2 WB3 => ?_
            obtain ⟨u, rfl⟩ := hu2
            have WA3 : DictW EntAt (upd (upd H20 a2 (.tup [.ref pb, mvV m, .int (1 + ((out : Int) - (i : Int)) % (n : Int))])) A2 (.dK u)) A (putL PA z ⟨b, m, rk⟩) := by
              obtain ⟨mA, hmA, _⟩ := (WB2.same monoE s21).ex
              exact (WA2.same monoE s21).other hmA nAB.symm
            walk_at "go"
            exact ⟨_, _, _, _, rfl, same_upd (s20.trans s21) hA20, WA3, WB3, FA.put wd hi hz (by rw [hm, egd]) erd.symm, FB.put wd hi hz (by rw [hm, egd]) rfl⟩
        · rintro σ H18 ⟨v16, v17, PA, PB, rfl, s18, WA, WB, FA, FB⟩
          rw [Int.toNat_natCast] at FA FB
          obtain ⟨zo, hzo⟩ : ∃ z, ws[out]? = some z := ⟨_, List.getElem?_eq_getElem (by omega)⟩
          have hzov : (strsV ws)[out]? = some (.str zo) := by rw [List.getElem?_map, hzo]; rfl
          have gdz : ∀ k z, ws[k]? = some z → ws.getD k ("" : Str) = z := fun k z h => by rw [List.getD_eq_getElem?_getD, h]; rfl
          have outOn : mvOn lot l zo = some ("on" : Str) := by
            have him : (out + 1) % n < n := Nat.mod_lt _ (by omega)
            obtain ⟨to, hto⟩ : ∃ z, ws[(out + 1) % n]? = some z := ⟨_, List.getElem?_eq_getElem (by omega)⟩
            obtain ⟨xo, hxo, hro⟩ := RI.row out ho e zo to he hzo hto
            rcases hro with ⟨_, rfl⟩ | ⟨h, _⟩
            · rw [mvOn_eq hxo]
              exact if_pos (decide_eq_true h0l)
            · exact absurd rfl h
          have hmA : ∀ k < n, ∀ z, ws[k]? = some z → (k ≠ out → mvOn lot l (ws.getD k ("" : Str)) = mvOn lot l z) ∧ (k = out → mvOn lot l (ws.getD k ("" : Str)) = some ("on" : Str)) := fun k hk z hz => by
            rw [gdz k z hz]
            refine ⟨fun _ => rfl, fun h => ?_⟩
            subst h
            rw [hzo] at hz
            cases hz
            exact outOn
          have rkA : ∀ k < n, 0 ≤ rks.getD k 0 := fun k hk => by
            rw [List.getD_eq_getElem?_getD]
            cases h : rks[k]? with
            | none => exact Int.le_refl _
            | some r => exact hr0 r (List.mem_of_getElem? h)
          have gT' := R.ts.good g
          have s0A : L2.Same H15 (wo H18 A) := fun b o e => by
            rw [wo_ne (ne_of_none e hA)]
            exact s18 b o e
          walk_at "go"
          refine ⟨x, y, lo, A, dw, t, 2, e9, z0, l', [(e, v)], PA, lot, rfl, wa15.same s0A, gT', s0A _ _ hw, s0A _ _ ht, SqT.of (s0A _ _ hlo15), WA, FA.nd wd (Nat.le_refl _), FA.len (by omega), ents_ok R h0l (fun k hk z hz => ⟨(hmA k hk z hz).1, fun h => .inl ((hmA k hk z hz).2 h)⟩) FA rkA B he rfl hv.sm hv.vb, fun H23 s23 => ?_⟩
          rw [plan_no R h0l hmA FA rkA B]
          walk_at "go"
          refine ⟨false, false, rfl, rfl, ?_⟩
          walk_at "go"
          refine x_nyes rfl ?_
          walk_at "go"
          refine ⟨sz_le (by simp), fun a3 ha3 => ?_⟩
          have WB3 := WB.same monoE s23
          have s24 : L2.Same H23 (upd H23 a3 (.tup [.ref pb, .str "off", .int 1])) := same_new ha3
          have s1524 := (s18.trans s23).trans s24
          have nA3 : a3 ≠ A2 := fun e => by
            obtain ⟨m, h1, _⟩ := WB3.ex
            rw [← e, ha3] at h1
            cases h1
          have E3 : EntAt (wo (upd H23 a3 (.tup [.ref pb, .str "off", .int 1])) A2) a3 ⟨b, some ("off" : Str), 1⟩ := by
            have npA : pb ≠ A2 := ne_of_none (show H15 pb = some _ from hfr15) hA20
            refine ⟨pb, by rw [wo_ne nA3, upd_same]; rfl, ?_⟩
            show wo _ A2 pb = _
            rw [wo_ne npA]
            exact s1524 _ _ hfr15
          walk_at "go"
          refine x_ixl out (SqL.of (s1524 _ _ hq15)) rfl hzov ?_
          refine ent_put (WB3.same monoE s24) (FB.len (by omega)) E3 fun H25 hu2 WB4 => ?_
          obtain ⟨u, rfl⟩ := hu2
          have s25 : L2.Same H15 (upd (upd H23 a3 (.tup [.ref pb, .str "off", .int 1])) A2 (.dK u)) := same_upd s1524 hA20
          generalize upd (upd H23 a3 (.tup [.ref pb, .str "off", .int 1])) A2 (.dK u) = H25 at WB4 s25 ⊢
          have s0B : L2.Same H15 (wo H25 A2) := fun b o e => by
            rw [wo_ne (ne_of_none e hA20)]
            exact s25 b o e
          have FB2 := FB.set wd ho hzo
          have hmB : ∀ k < n, ∀ z, ws[k]? = some z → (k ≠ out → (if k = out then some ("off" : Str) else mvOn lot l (ws.getD k ("" : Str))) = mvOn lot l z) ∧ (k = out → (if k = out then some ("off" : Str) else mvOn lot l (ws.getD k ("" : Str))) = some ("off" : Str)) := fun k hk z hz => by
            refine ⟨fun h => ?_, fun h => if_pos h⟩
            rw [if_neg h, gdz k z hz]
          have hrkB : ∀ k < n, (if k = out then (1 : Int) else 1 + ((out : Int) - (k : Int)) % (n : Int)) = 1 + ((out : Int) - (k : Int)) % (n : Int) := fun k hk => by
            by_cases h : k = out
            · rw [if_pos h, h, ring_mod ho ho, if_pos (Nat.le_refl _)]
              omega
            · rw [if_neg h]
          have rkB : ∀ k < n, (0 : Int) ≤ (if k = out then (1 : Int) else 1 + ((out : Int) - (k : Int)) % (n : Int)) := fun k hk => by
            rw [hrkB k hk, ring_mod ho hk]
            split <;> omega
          walk_at "go"
          refine ⟨x, y, lo, A2, dw, t, 2, e9, z0, l', [(e, v)], _, lot, rfl, wa15.same s0B, gT', s0B _ _ hw, s0B _ _ ht, SqT.of (s0B _ _ hlo15), WB4, FB2.nd wd (Nat.le_refl _), FB2.len (by omega), ents_ok R h0l (fun k hk z hz => ⟨(hmB k hk z hz).1, fun h => .inr ((hmB k hk z hz).2 h)⟩) FB2 rkB B he rfl hv.sm hv.vb, fun H26 s26 => ?_⟩
          rw [plan_yes R h0l hmB FB2 hrkB B he rfl hv.sm hv.vb]
          walk_at "go"
          refine ⟨true, true, rfl, rfl, ?_⟩
          exact k H26
end
end Law
/-! the head -/
namespace Law
open PySem PySem.Spec PyProof.Rows L2 Ox
def d_law : Oh.Dd := ⟨fun K => He.ga K "law", "law", "law", s_law⟩
def d_pool : Oh.Dd := ⟨fun K => He.ga K "_law_pool", "_law_pool", "_law_pool", s_pool⟩
def d_draw : Oh.Dd := ⟨fun K => He.ga K "_law_draw", "_law_draw", "_law_draw", s_draw⟩
def d_l_frac : Oh.Dd := ⟨fun K => He.ga K "_law_frac", "_law_frac", "_law_frac", s_l_frac⟩
def d_l_gcd : Oh.Dd := ⟨fun K => He.ga K "_law_gcd", "_law_gcd", "_law_gcd", s_l_gcd⟩
def d_l_round : Oh.Dd := ⟨fun K => He.ga K "_law_round", "_law_round", "_law_round", s_l_round⟩
def d_words : Oh.Dd := ⟨fun K => He.ga K "_law_words", "_law_words", "_law_words", s_words⟩
def d_word : Oh.Dd := ⟨fun K => He.ga K "_law_word", "_law_word", "_law_word", s_word⟩
def d_l_copy : Oh.Dd := ⟨fun K => He.ga K "_law_copy", "_law_copy", "_law_copy", s_l_copy⟩
def d_l_mover : Oh.Dd := ⟨fun K => He.ga K "_law_mover", "_law_mover", "_law_mover", s_l_mover⟩
def d_Work_init : Oh.Dd := ⟨fun K => He.ma K (He.ga K "Work") "__init__", "__init__", "Work.__init__", s_Work_init⟩
def d_is_integer : Oh.Dd := ⟨fun K => He.ga K "is_integer", "is_integer", "is_integer", s_is_integer⟩
def d_is_name : Oh.Dd := ⟨fun K => He.ga K "is_name", "is_name", "is_name", s_is_name⟩
def d_are_stands : Oh.Dd := ⟨fun K => He.ga K "are_stands", "are_stands", "are_stands", s_are_stands⟩
def d_is_stand : Oh.Dd := ⟨fun K => He.ga K "is_stand", "is_stand", "is_stand", s_is_stand⟩
def d_is_moves : Oh.Dd := ⟨fun K => He.ga K "is_moves", "is_moves", "is_moves", s_is_moves⟩
def d_is_draws : Oh.Dd := ⟨fun K => He.ga K "is_draws", "is_draws", "is_draws", s_is_draws⟩
def d_is_pair : Oh.Dd := ⟨fun K => He.ga K "is_pair", "is_pair", "is_pair", s_is_pair⟩
def d_copied : Oh.Dd := ⟨fun K => He.ga K "copied", "copied", "copied", s_copied⟩
def d_is_ringless : Oh.Dd := ⟨fun K => He.ga K "is_ringless", "is_ringless", "is_ringless", s_is_ringless⟩
def d_leads : Oh.Dd := ⟨fun K => He.ga K "leads", "leads", "leads", s_leads⟩
def d_Wish_init : Oh.Dd := ⟨fun K => He.ma K (He.ga K "Wish") "__init__", "__init__", "Wish.__init__", s_Wish_init⟩
def d_are_worths : Oh.Dd := ⟨fun K => He.ga K "are_worths", "are_worths", "are_worths", s_are_worths⟩
def d_is_value : Oh.Dd := ⟨fun K => He.ga K "is_value", "is_value", "is_value", s_is_value⟩
def d_is_plan : Oh.Dd := ⟨fun K => He.ga K "is_plan", "is_plan", "is_plan", s_is_plan⟩
def d_is_entry : Oh.Dd := ⟨fun K => He.ga K "is_entry", "is_entry", "is_entry", s_is_entry⟩
def d_is_fraction : Oh.Dd := ⟨fun K => He.ga K "is_fraction", "is_fraction", "is_fraction", s_is_fraction⟩
def d_common_divisor : Oh.Dd := ⟨fun K => He.ga K "common_divisor", "common_divisor", "common_divisor", s_common_divisor⟩
def d_is_shown : Oh.Dd := ⟨fun K => He.ga K "is_shown", "is_shown", "is_shown", s_is_shown⟩
def d_less : Oh.Dd := ⟨fun K => He.ga K "less", "less", "less", s_less⟩
def d_whole : Oh.Dd := ⟨fun K => He.ga K "whole", "whole", "whole", s_whole⟩
def d_goals : Oh.Dd := ⟨fun K => He.ga K "goals", "goals", "goals", s_goals⟩
def d_is_hand_shown : Oh.Dd := ⟨fun K => He.ga K "is_hand_shown", "is_hand_shown", "is_hand_shown", s_is_hand_shown⟩
def d_is_chance_shown : Oh.Dd := ⟨fun K => He.ga K "is_chance_shown", "is_chance_shown", "is_chance_shown", s_is_chance_shown⟩
def d_weighted_mean : Oh.Dd := ⟨fun K => He.ga K "weighted_mean", "weighted_mean", "weighted_mean", s_weighted_mean⟩
def d_plus : Oh.Dd := ⟨fun K => He.ga K "plus", "plus", "plus", s_plus⟩
def d_fraction : Oh.Dd := ⟨fun K => He.ga K "fraction", "fraction", "fraction", s_fraction⟩
def d_draws_of : Oh.Dd := ⟨fun K => He.ga K "draws_of", "draws_of", "draws_of", s_draws_of⟩
abbrev ds0 : List Oh.Dd := [d_law, d_pool, d_draw, d_l_frac, d_l_gcd, d_l_round, d_words, d_word, d_l_copy, d_l_mover, d_Work_init, d_is_integer, d_is_name, d_are_stands, d_is_stand, d_is_moves, d_is_draws, d_is_pair, d_copied, d_is_ringless, d_leads, d_Wish_init, d_are_worths, d_is_value, d_is_plan, d_is_entry, d_is_fraction, d_common_divisor, d_is_shown, d_less]
abbrev ds1 : List Oh.Dd := [d_whole, d_goals, d_is_hand_shown, d_is_chance_shown, d_weighted_mean, d_plus, d_fraction, d_draws_of]
abbrev dsA : List Oh.Dd := ds0 ++ ds1
abbrev fa0 : List (Oh.Frag → Bool) := [Oh.fo (.glo "law"), Oh.fo (.free "range"), Oh.fo (.free "len"), Oh.fo (.free "int"), Oh.fo (.free "min"), Oh.fo (.glo "_law_pool"), Oh.fo (.glo "_law_draw"), Oh.fo (.free "abs"), Oh.fo (.glo "_law_gcd"), Oh.fo (.glo "_law_frac"), Oh.fo (.free "str"), Oh.fo (.glo "_law_word"), Oh.fo (.glo "_law_words"), Oh.fo (.glo "_law_round"), Oh.fo (.free "dict"), Oh.fo (.glo "_law_copy"), Oh.fo (.glo "_law_mover"), Oh.fo (.cls "Work"), Oh.fo (.noat "Work" "hands"), Oh.fo (.noat "Work" "start"), Oh.fo (.noat "Work" "table"), Oh.fo (.noat "Work" "names"), Oh.fo (.noat "Work" "ends"), Oh.fo (.noat "Work" "ringless"), Oh.fo (.free "sorted"), Oh.fo (.free "tuple"), Oh.fo (.free "bool"), Oh.fo (.free "isinstance"), Oh.fo (.glo "is_integer"), Oh.fo (.glo "is_name")]
abbrev fa1 : List (Oh.Frag → Bool) := [Oh.fo (.glo "is_moves"), Oh.fo (.glo "is_pair"), Oh.fo (.glo "is_draws"), Oh.fo (.glo "is_stand"), Oh.fo (.glo "are_stands"), Oh.fo (.glo "copied"), Oh.fo (.free "list"), Oh.fo (.free "all"), Oh.fo (.glo "leads"), Oh.fo (.glo "is_ringless"), Oh.fo (.mkr "Work"), Oh.fo (.glo "Work"), Oh.fo (.cls "Wish"), Oh.fo (.noat "Wish" "table"), Oh.fo (.noat "Wish" "endless"), Oh.fo (.noat "Wish" "coming"), Oh.fo (.glo "is_value"), Oh.fo (.glo "are_worths"), Oh.fo (.mkr "Wish"), Oh.fo (.glo "Wish"), Oh.fo (.glo "common_divisor"), Oh.fo (.glo "is_fraction"), Oh.fo (.glo "is_entry"), Oh.fo (.glo "less"), Oh.fo (.glo "whole"), Oh.fo (.glo "goals"), Oh.fo (.glo "is_hand_shown"), Oh.fo (.free "zip"), Oh.fo (.free "any"), Oh.fo (.glo "fraction")]
abbrev fa2 : List (Oh.Frag → Bool) := [Oh.fo (.glo "plus"), Oh.fo (.glo "weighted_mean"), Oh.fo (.glo "is_chance_shown"), Oh.fo (.glo "draws_of"), Oh.fo (.glo "is_shown"), Oh.fo (.glo "is_plan")]
abbrev faA : List (Oh.Frag → Bool) := fa0 ++ fa1 ++ fa2
abbrev lo0 : List Str := ["_wall", "is_integer", "is_name", "is_pair", "common_divisor", "fraction", "is_fraction", "whole", "plus", "less", "weighted_mean", "OwnError", "BadWork", "NoStand", "NoStep", "BadWish", "is_moves", "is_draws", "is_stand", "are_stands", "copied", "leads", "draws_of", "is_ringless", "Work", "is_value", "are_worths", "Wish", "is_entry", "goals"]
abbrev lo1 : List Str := ["is_hand_shown", "is_chance_shown", "is_shown", "is_plan", "_law_pool", "_law_draw", "_law_word", "_law_words", "_law_copy", "_law_mover", "_law_gcd", "_law_frac", "_law_round"]
abbrev loA : List Str := lo0 ++ lo1
abbrev Rw : PySem.W.OpenRow := PySem.W.OpenLaw.row PySem.Challenge.rw_ownslips_k20_rounds_that_go_nowhere
abbrev hk : PySem.W.Hook := Oh.hook 50 faA dsA
def ob (s : PySem.W.SharedT) : Oh.Ob := Oh.obT 50 faA dsA s
theorem ob_eq (s : PySem.W.SharedT) : ob s = hk.obs s.abs := Oh.obT_eq s
theorem run (w : World) : HandSHeadRun.RunEq Rw (PySem.W.view Rw.prog [49]) hk ob 4000 loA w := by
  intro os
  kernel_rfl
theorem facts {P : Program} {w : World} {K : PySem.W.Frag} {h : Heap} {mg : Str → Option Value} {f : Addr} (X : K.In h) (G : h.Ns mainGlobals mg) (hfa : mg ("law" : Str) = some (.ref f)) (c : Oh.Told faA dsA K) :
    ∃ fd : FuncData, (∀ (s : Shared) (v : Value), BindsTo s fd ⟨[v], []⟩ [("_law_script", v)]) ∧ ∀ base : Heap, K.In base → base.Ns mainGlobals mg → FnOk P w K mg base CX0 8 f fd ["_law_script"] ((spLaw K)) := by
  obtain ⟨_, F_law⟩ := c.def_ 0 (d := d_law) rfl
  have e := hfa.symm.trans (He.glo_ok X G (c.fact 0 (f := Oh.fo (.glo "law")) rfl))
  cases e
  have b := Oh.bindsA (ps := ["_law_script"]) F_law fun _ _ _ _ _ _ us hl => match us, hl with | [_], _ => rfl
  refine ⟨_, fun s v => b s [v] rfl, fun base _ _ => ?_⟩
  have x1 : mg "range" = none := He.free_ok X G (c.fact 1 (f := Oh.fo (.free "range")) rfl)
  obtain ⟨_, F_pool⟩ := c.def_ 1 (d := d_pool) rfl
  have x2 : mg "len" = none := He.free_ok X G (c.fact 2 (f := Oh.fo (.free "len")) rfl)
  have x3 : mg "int" = none := He.free_ok X G (c.fact 3 (f := Oh.fo (.free "int")) rfl)
  have x4 : mg "min" = none := He.free_ok X G (c.fact 4 (f := Oh.fo (.free "min")) rfl)
  have x5 : Cal P w K mg base 1 "_law_pool" ["_law_script"] (spPool K) := ⟨_, _, ok_pool F_pool x2 x3 x4 x1, He.glo_ok X G (c.fact 5 (f := Oh.fo (.glo "_law_pool")) rfl), F_pool.kp, bd_pool F_pool⟩
  obtain ⟨_, F_draw⟩ := c.def_ 2 (d := d_draw) rfl
  have x6 : Cal P w K mg base 1 "_law_draw" ["_law_pool_here", "_law_many"] spDraw := ⟨_, _, ok_draw F_draw x2 x3, He.glo_ok X G (c.fact 6 (f := Oh.fo (.glo "_law_draw")) rfl), F_draw.kp, bd_draw F_draw⟩
  obtain ⟨_, F_l_frac⟩ := c.def_ 3 (d := d_l_frac) rfl
  have x7 : mg "abs" = none := He.free_ok X G (c.fact 7 (f := Oh.fo (.free "abs")) rfl)
  obtain ⟨_, F_l_gcd⟩ := c.def_ 4 (d := d_l_gcd) rfl
  have x8 : Cal P w K mg base 1 "_law_gcd" ["_law_one", "_law_other"] spGcd := ⟨_, _, ok_l_gcd F_l_gcd x3, He.glo_ok X G (c.fact 8 (f := Oh.fo (.glo "_law_gcd")) rfl), F_l_gcd.kp, bd_l_gcd F_l_gcd⟩
  have x9 : Cal P w K mg base 2 "_law_frac" ["_law_top", "_law_bottom"] spFrac := ⟨_, _, ok_l_frac F_l_frac x7 x8, He.glo_ok X G (c.fact 9 (f := Oh.fo (.glo "_law_frac")) rfl), F_l_frac.kp, bd_l_frac F_l_frac⟩
  obtain ⟨_, F_l_round⟩ := c.def_ 5 (d := d_l_round) rfl
  obtain ⟨_, F_words⟩ := c.def_ 6 (d := d_words) rfl
  have x10 : mg "str" = none := He.free_ok X G (c.fact 10 (f := Oh.fo (.free "str")) rfl)
  obtain ⟨_, F_word⟩ := c.def_ 7 (d := d_word) rfl
  have x11 : Cal P w K mg base 2 "_law_word" ["_law_pool_here", "_law_longest"] spWord := ⟨_, _, ok_word F_word x1 x6, He.glo_ok X G (c.fact 11 (f := Oh.fo (.glo "_law_word")) rfl), F_word.kp, bd_word F_word⟩
  have x12 : Cal P w K mg base 3 "_law_words" ["_law_pool_here", "_law_many"] spWords := ⟨_, _, ok_words F_words x1 x10 x6 x11, He.glo_ok X G (c.fact 12 (f := Oh.fo (.glo "_law_words")) rfl), F_words.kp, bd_words F_words⟩
  have x13 : Cal P w K mg base 4 "_law_round" ["_law_pool_here", "_law_many"] spRound := ⟨_, _, ok_l_round F_l_round x1 x6 x12, He.glo_ok X G (c.fact 13 (f := Oh.fo (.glo "_law_round")) rfl), F_l_round.kp, bd_l_round F_l_round⟩
  obtain ⟨_, F_l_copy⟩ := c.def_ 8 (d := d_l_copy) rfl
  have x14 : mg "dict" = none := He.free_ok X G (c.fact 14 (f := Oh.fo (.free "dict")) rfl)
  have x15 : Cal P w K mg base 1 "_law_copy" ["_law_stands"] spCopyL := ⟨_, _, ok_l_copy F_l_copy x14, He.glo_ok X G (c.fact 15 (f := Oh.fo (.glo "_law_copy")) rfl), F_l_copy.kp, bd_l_copy F_l_copy⟩
  obtain ⟨_, F_l_mover⟩ := c.def_ 9 (d := d_l_mover) rfl
  have x16 : Cal P w K mg base 1 "_law_mover" ["_law_stands", "_law_name"] spMoverL := ⟨_, _, ok_l_mover F_l_mover , He.glo_ok X G (c.fact 16 (f := Oh.fo (.glo "_law_mover")) rfl), F_l_mover.kp, bd_l_mover F_l_mover⟩
  obtain ⟨_, F_Work_init⟩ := c.def_ 10 (d := d_Work_init) rfl
  have x17 : Cls K (He.ga K "Work") := He.cls_ok (c.fact 17 (f := Oh.fo (.cls "Work")) rfl)
  have x18 : NoAttr K (He.ga K "Work") "hands" := He.noat_ok (c.fact 18 (f := Oh.fo (.noat "Work" "hands")) rfl)
  have x19 : NoAttr K (He.ga K "Work") "start" := He.noat_ok (c.fact 19 (f := Oh.fo (.noat "Work" "start")) rfl)
  have x20 : NoAttr K (He.ga K "Work") "table" := He.noat_ok (c.fact 20 (f := Oh.fo (.noat "Work" "table")) rfl)
  have x21 : NoAttr K (He.ga K "Work") "names" := He.noat_ok (c.fact 21 (f := Oh.fo (.noat "Work" "names")) rfl)
  have x22 : NoAttr K (He.ga K "Work") "ends" := He.noat_ok (c.fact 22 (f := Oh.fo (.noat "Work" "ends")) rfl)
  have x23 : NoAttr K (He.ga K "Work") "ringless" := He.noat_ok (c.fact 23 (f := Oh.fo (.noat "Work" "ringless")) rfl)
  have x24 : mg "sorted" = none := He.free_ok X G (c.fact 24 (f := Oh.fo (.free "sorted")) rfl)
  have x25 : mg "tuple" = none := He.free_ok X G (c.fact 25 (f := Oh.fo (.free "tuple")) rfl)
  obtain ⟨_, F_is_integer⟩ := c.def_ 11 (d := d_is_integer) rfl
  have x26 : mg "bool" = none := He.free_ok X G (c.fact 26 (f := Oh.fo (.free "bool")) rfl)
  have x27 : mg "isinstance" = none := He.free_ok X G (c.fact 27 (f := Oh.fo (.free "isinstance")) rfl)
  have x28 : Cal P w K mg base 1 "is_integer" ["thing"] (spIsInt K) := ⟨_, _, ok_is_integer F_is_integer x3 x26 x27, He.glo_ok X G (c.fact 28 (f := Oh.fo (.glo "is_integer")) rfl), F_is_integer.kp, bd_is_integer F_is_integer⟩
  obtain ⟨_, F_is_name⟩ := c.def_ 12 (d := d_is_name) rfl
  have x29 : Cal P w K mg base 1 "is_name" ["thing"] (spIsName K) := ⟨_, _, ok_is_name F_is_name x10 x2 x27, He.glo_ok X G (c.fact 29 (f := Oh.fo (.glo "is_name")) rfl), F_is_name.kp, bd_is_name F_is_name⟩
  obtain ⟨_, F_are_stands⟩ := c.def_ 13 (d := d_are_stands) rfl
  obtain ⟨_, F_is_stand⟩ := c.def_ 14 (d := d_is_stand) rfl
  obtain ⟨_, F_is_moves⟩ := c.def_ 15 (d := d_is_moves) rfl
  have x30 : Cal P w K mg base 2 "is_moves" ["thing", "names"] spIsMoves := ⟨_, _, ok_is_moves F_is_moves x14 x2 x27 x29, He.glo_ok X G (c.fact 30 (f := Oh.fo (.glo "is_moves")) rfl), F_is_moves.kp, bd_is_moves F_is_moves⟩
  obtain ⟨_, F_is_draws⟩ := c.def_ 16 (d := d_is_draws) rfl
  obtain ⟨_, F_is_pair⟩ := c.def_ 17 (d := d_is_pair) rfl
  have x31 : Cal P w K mg base 1 "is_pair" ["thing"] (spIsPair K) := ⟨_, _, ok_is_pair F_is_pair x25 x2 x27, He.glo_ok X G (c.fact 31 (f := Oh.fo (.glo "is_pair")) rfl), F_is_pair.kp, bd_is_pair F_is_pair⟩
  have x32 : Cal P w K mg base 2 "is_draws" ["thing", "names"] spIsDraws := ⟨_, _, ok_is_draws F_is_draws x14 x2 x27 x29 x31 x28, He.glo_ok X G (c.fact 32 (f := Oh.fo (.glo "is_draws")) rfl), F_is_draws.kp, bd_is_draws F_is_draws⟩
  have x33 : Cal P w K mg base 3 "is_stand" ["thing", "hands", "names"] (spIsStand K) := ⟨_, _, ok_is_stand F_is_stand x25 x10 x2 x27 x30 x32 x28, He.glo_ok X G (c.fact 33 (f := Oh.fo (.glo "is_stand")) rfl), F_is_stand.kp, bd_is_stand F_is_stand⟩
  have x34 : Cal P w K mg base 4 "are_stands" ["thing", "hands"] spAreStands := ⟨_, _, ok_are_stands F_are_stands x14 x2 x27 x29 x33, He.glo_ok X G (c.fact 34 (f := Oh.fo (.glo "are_stands")) rfl), F_are_stands.kp, bd_are_stands F_are_stands⟩
  obtain ⟨_, F_copied⟩ := c.def_ 18 (d := d_copied) rfl
  have x35 : Cal P w K mg base 1 "copied" ["stand"] spCopied := ⟨_, _, ok_copied F_copied x2 x24, He.glo_ok X G (c.fact 35 (f := Oh.fo (.glo "copied")) rfl), F_copied.kp, bd_copied F_copied⟩
  obtain ⟨_, F_is_ringless⟩ := c.def_ 19 (d := d_is_ringless) rfl
  have x36 : mg "list" = none := He.free_ok X G (c.fact 36 (f := Oh.fo (.free "list")) rfl)
  have x37 : mg "all" = none := He.free_ok X G (c.fact 37 (f := Oh.fo (.free "all")) rfl)
  obtain ⟨_, F_leads⟩ := c.def_ 20 (d := d_leads) rfl
  have x38 : Cal P w K mg base 1 "leads" ["work", "stand"] (spLeads (He.ga K "Work")) := ⟨_, _, ok_leads F_leads x17 x20, He.glo_ok X G (c.fact 38 (f := Oh.fo (.glo "leads")) rfl), F_leads.kp, bd_leads F_leads⟩
  have x39 : Cal P w K mg base 2 "is_ringless" ["work"] (spRingless (He.ga K "Work")) := ⟨_, _, ok_is_ringless F_is_ringless x17 x21 x36 x37 x2 x38, He.glo_ok X G (c.fact 39 (f := Oh.fo (.glo "is_ringless")) rfl), F_is_ringless.kp, bd_is_ringless F_is_ringless⟩
  have x40 : Mkc P w K mg base (He.ga K "Work") 5 "Work" ["self", "hands", "start", "stands"] (spWorkInit (He.ga K "Work")) := ⟨_, _, He.mkr_ok (c.fact 40 (f := Oh.fo (.mkr "Work")) rfl), ok_Work_init F_Work_init x17 x18 x19 x20 x21 x22 x23 x24 x25 x28 x29 x34 x35 x39, He.glo_ok X G (c.fact 41 (f := Oh.fo (.glo "Work")) rfl), bd_Work_init F_Work_init⟩
  obtain ⟨_, F_Wish_init⟩ := c.def_ 21 (d := d_Wish_init) rfl
  have x41 : Cls K (He.ga K "Wish") := He.cls_ok (c.fact 42 (f := Oh.fo (.cls "Wish")) rfl)
  have x42 : NoAttr K (He.ga K "Wish") "table" := He.noat_ok (c.fact 43 (f := Oh.fo (.noat "Wish" "table")) rfl)
  have x43 : NoAttr K (He.ga K "Wish") "endless" := He.noat_ok (c.fact 44 (f := Oh.fo (.noat "Wish" "endless")) rfl)
  have x44 : NoAttr K (He.ga K "Wish") "coming" := He.noat_ok (c.fact 45 (f := Oh.fo (.noat "Wish" "coming")) rfl)
  obtain ⟨_, F_are_worths⟩ := c.def_ 22 (d := d_are_worths) rfl
  obtain ⟨_, F_is_value⟩ := c.def_ 23 (d := d_is_value) rfl
  have x45 : Cal P w K mg base 2 "is_value" ["thing"] (spIsValue K) := ⟨_, _, ok_is_value F_is_value x28, He.glo_ok X G (c.fact 46 (f := Oh.fo (.glo "is_value")) rfl), F_is_value.kp, bd_is_value F_is_value⟩
  have x46 : Cal P w K mg base 3 "are_worths" ["thing"] (spAreWorths K) := ⟨_, _, ok_are_worths F_are_worths x14 x2 x27 x29 x45, He.glo_ok X G (c.fact 47 (f := Oh.fo (.glo "are_worths")) rfl), F_are_worths.kp, bd_are_worths F_are_worths⟩
  have x47 : Mkc P w K mg base (He.ga K "Wish") 4 "Wish" ["self", "worths", "endless"] (spWishInit (He.ga K "Wish")) := ⟨_, _, He.mkr_ok (c.fact 48 (f := Oh.fo (.mkr "Wish")) rfl), ok_Wish_init F_Wish_init x41 x42 x43 x44 x36 x37 x24 x46 x45, He.glo_ok X G (c.fact 49 (f := Oh.fo (.glo "Wish")) rfl), bd_Wish_init F_Wish_init⟩
  obtain ⟨_, F_is_plan⟩ := c.def_ 24 (d := d_is_plan) rfl
  obtain ⟨_, F_is_entry⟩ := c.def_ 25 (d := d_is_entry) rfl
  obtain ⟨_, F_is_fraction⟩ := c.def_ 26 (d := d_is_fraction) rfl
  obtain ⟨_, F_common_divisor⟩ := c.def_ 27 (d := d_common_divisor) rfl
  have x48 : Cal P w K mg base 1 "common_divisor" ["one", "other"] spGcd := ⟨_, _, ok_common_divisor F_common_divisor , He.glo_ok X G (c.fact 50 (f := Oh.fo (.glo "common_divisor")) rfl), F_common_divisor.kp, bd_common_divisor F_common_divisor⟩
  have x49 : Cal P w K mg base 2 "is_fraction" ["thing"] spIsFrac := ⟨_, _, ok_is_fraction F_is_fraction x7 x48 x31 x28, He.glo_ok X G (c.fact 51 (f := Oh.fo (.glo "is_fraction")) rfl), F_is_fraction.kp, bd_is_fraction F_is_fraction⟩
  have x50 : Cal P w K mg base 3 "is_entry" ["work", "lot", "stand", "entry"] (spIsEntry K (He.ga K "Work")) := ⟨_, _, ok_is_entry F_is_entry x17 x20 x10 x25 x2 x27 x49 x28, He.glo_ok X G (c.fact 52 (f := Oh.fo (.glo "is_entry")) rfl), F_is_entry.kp, bd_is_entry F_is_entry⟩
  obtain ⟨_, F_is_shown⟩ := c.def_ 28 (d := d_is_shown) rfl
  obtain ⟨_, F_less⟩ := c.def_ 29 (d := d_less) rfl
  have x51 : Cal P w K mg base 1 "less" ["one", "other"] spLess := ⟨_, _, ok_less F_less , He.glo_ok X G (c.fact 53 (f := Oh.fo (.glo "less")) rfl), F_less.kp, bd_less F_less⟩
  obtain ⟨_, F_whole⟩ := c.def_ 30 (d := d_whole) rfl
  have x52 : Cal P w K mg base 1 "whole" ["number"] spWhole := ⟨_, _, ok_whole F_whole , He.glo_ok X G (c.fact 54 (f := Oh.fo (.glo "whole")) rfl), F_whole.kp, bd_whole F_whole⟩
  obtain ⟨_, F_goals⟩ := c.def_ 31 (d := d_goals) rfl
  have x53 : Cal P w K mg base 2 "goals" ["work", "stand", "move"] (spGoals (He.ga K "Work")) := ⟨_, _, ok_goals F_goals x17 x20 x38, He.glo_ok X G (c.fact 55 (f := Oh.fo (.glo "goals")) rfl), F_goals.kp, bd_goals F_goals⟩
  obtain ⟨_, F_is_hand_shown⟩ := c.def_ 32 (d := d_is_hand_shown) rfl
  have x54 : Cal P w K mg base 2 "is_hand_shown" ["wish", "entry", "behind"] (spHandShown (He.ga K "Wish")) := ⟨_, _, ok_is_hand_shown F_is_hand_shown x41 x44 x51, He.glo_ok X G (c.fact 56 (f := Oh.fo (.glo "is_hand_shown")) rfl), F_is_hand_shown.kp, bd_is_hand_shown F_is_hand_shown⟩
  obtain ⟨_, F_is_chance_shown⟩ := c.def_ 33 (d := d_is_chance_shown) rfl
  have x55 : mg "zip" = none := He.free_ok X G (c.fact 57 (f := Oh.fo (.free "zip")) rfl)
  have x56 : mg "any" = none := He.free_ok X G (c.fact 58 (f := Oh.fo (.free "any")) rfl)
  obtain ⟨_, F_weighted_mean⟩ := c.def_ 34 (d := d_weighted_mean) rfl
  obtain ⟨_, F_plus⟩ := c.def_ 35 (d := d_plus) rfl
  obtain ⟨_, F_fraction⟩ := c.def_ 36 (d := d_fraction) rfl
  have x57 : Cal P w K mg base 2 "fraction" ["top", "bottom"] spFrac := ⟨_, _, ok_fraction F_fraction x7 x48, He.glo_ok X G (c.fact 59 (f := Oh.fo (.glo "fraction")) rfl), F_fraction.kp, bd_fraction F_fraction⟩
  have x58 : Cal P w K mg base 3 "plus" ["one", "other"] spPlus := ⟨_, _, ok_plus F_plus x57, He.glo_ok X G (c.fact 60 (f := Oh.fo (.glo "plus")) rfl), F_plus.kp, bd_plus F_plus⟩
  have x59 : Cal P w K mg base 4 "weighted_mean" ["rows"] spMean := ⟨_, _, ok_weighted_mean F_weighted_mean x58 x57, He.glo_ok X G (c.fact 61 (f := Oh.fo (.glo "weighted_mean")) rfl), F_weighted_mean.kp, bd_weighted_mean F_weighted_mean⟩
  have x60 : Cal P w K mg base 5 "is_chance_shown" ["wish", "entry", "behind", "weights"] (spChanceShown (He.ga K "Wish")) := ⟨_, _, ok_is_chance_shown F_is_chance_shown x41 x44 x55 x56 x51 x59, He.glo_ok X G (c.fact 62 (f := Oh.fo (.glo "is_chance_shown")) rfl), F_is_chance_shown.kp, bd_is_chance_shown F_is_chance_shown⟩
  obtain ⟨_, F_draws_of⟩ := c.def_ 37 (d := d_draws_of) rfl
  have x61 : Cal P w K mg base 1 "draws_of" ["work", "stand"] (spDrawsOf (He.ga K "Work")) := ⟨_, _, ok_draws_of F_draws_of x17 x20, He.glo_ok X G (c.fact 63 (f := Oh.fo (.glo "draws_of")) rfl), F_draws_of.kp, bd_draws_of F_draws_of⟩
  have x62 : Cal P w K mg base 6 "is_shown" ["work", "wish", "stand", "thing"] (spShown (He.ga K "Work") (He.ga K "Wish")) := ⟨_, _, ok_is_shown F_is_shown x17 x41 x20 x42 x43 x44 x37 x51 x52 x53 x54 x60 x61, He.glo_ok X G (c.fact 64 (f := Oh.fo (.glo "is_shown")) rfl), F_is_shown.kp, bd_is_shown F_is_shown⟩
  have x63 : Cal P w K mg base 7 "is_plan" ["work", "wish", "lot", "thing"] (spPlan K (He.ga K "Work") (He.ga K "Wish")) := ⟨_, _, ok_is_plan F_is_plan x37 x14 x27 x50 x62, He.glo_ok X G (c.fact 65 (f := Oh.fo (.glo "is_plan")) rfl), F_is_plan.kp, bd_is_plan F_is_plan⟩
  exact ok_law F_law x1 x5 x6 x9 x13 x15 x16 x40 x47 x63
end Law
open PySem PySem.W PySem.Calls PyProof.Rows
theorem PySem.Challenge.cw_ownslips_k20_rounds_that_go_nowhere_holds : PySem.Challenge.rw_ownslips_k20_rounds_that_go_nowhere.Holds := by
  w_on; o_law
  refine HandSHeadRun.head_any (r := OpenLaw.row PySem.Challenge.rw_ownslips_k20_rounds_that_go_nowhere) (q := view (PySem.W.OpenLaw.row PySem.Challenge.rw_ownslips_k20_rounds_that_go_nowhere).prog [49]) (H := Law.hk) (ob := Law.ob) (M := 4000) (loose := Law.loA) (d := HandSHeadRun.topDef (PySem.W.OpenLaw.row PySem.Challenge.rw_ownslips_k20_rounds_that_go_nowhere).prog 49) (kwd := []) Law.ob_eq
    (by kernel_rfl) (fun s => by kernel_rfl) Law.run (by kernel_rfl) (by kernel_rfl) (by kernel_rfl) (by rfl) (by first | assumption | decide +kernel) (by decide +kernel) ⟨rfl, rfl, rfl, rfl, rfl, by decide +kernel⟩ ?hw ?hc
  case hw => w_witness2
  case hc =>
    refine L2.walk_ofE (l := PySem.Challenge.rw_ownslips_k20_rounds_that_go_nowhere) (n := 63) (k := 8) (x := "_law_script") (CX := L2.CX0) rfl (by decide) (by kernel_rfl) ⟨rfl, by decide, by decide⟩ ?F (fun _ _ _ _ z => z)
    intro w mg fa h Y G hmg0
    obtain ⟨K, KX, c⟩ := Y
    have hmg : mg ("law" : PySem.Str) = some (.ref fa) := by
      have e : (HandSHeadRun.topDef (PySem.W.OpenLaw.row PySem.Challenge.rw_ownslips_k20_rounds_that_go_nowhere).prog 49).name = ("law" : PySem.Str) := by kernel_rfl
      rw [← e]
      exact hmg0
    obtain ⟨fd, hb, hF⟩ := Law.facts (P := (PySem.Challenge.rw_ownslips_k20_rounds_that_go_nowhere).prog) (w := w) KX G hmg c
    exact ⟨K, fd, Law.spLaw K, KX, hb, fun H a ns hl _ hS => ⟨a, ns, rfl, hS, hl, fun _ => rfl⟩, hF⟩
