import PyProof.Rows.All
import Wide.All
import OpenK.AllK
import Wide.FinOn
import HandS.ForMost
import HandS.Defaults
import HandS.Head0
import HandS.Head1
import HandS.Head2
import HandS.HeadEnd
import HandS.HeadHook1
import HandS.HeadHook2
import HandS.Property
import PyProof.Rows.RuleB_pow
import HandS.Wide
import HandS.Walk
import HandS.IsInst
import HandS.DictComp
import HandS.Style
import HandS.Flow
import HandS.TupAny
import HandS.ListItems
import HandS.Conv
import HandS.OwnEq
import PySem.Challenge.RW_ownslips_k08_mirrored_wishes
set_option Elab.async false
set_option linter.all false
set_option maxRecDepth 100000
set_option maxHeartbeats 4000000
/-! Own hook: facts are any Bool of the written part, defs stand at any address that the written part tells. -/
namespace Oh
open PySem PySem.Spec PyProof.Rows L2
abbrev Frag := PySem.W.Frag
/-- a def: where it stands and its text -/
structure Dd where
  spot : Frag → Addr
  name : Str
  qual : Str
  st : Stmt
def Dd.fnd (d : Dd) (K : Frag) : He.FnW := (K.lookup (d.spot K)).bind fun o => match o.data with
  | .func fd => some (fd.name, fd.qualname, fd.params, fd.body, fd.scope, fd.globals, fd.closure, fd.builtins)
  | _ => none
def Dd.due (d : Dd) : He.FnW := some (d.name, d.qual, defArgs d.st, .stmts (defBody d.st), defScope d.st, mainGlobals, [], builtinsNs)
def isNon : Value → Bool
  | .none => true
  | _ => false
def Dd.good (d : Dd) (K : Frag) : Bool := match K.lookup (d.spot K) with
  | some o => (match o.data with
    | .func fd => PySem.W.keepIn K (.ref (d.spot K)) && (PySem.W.codeIn K fd.code d.qual && isNon fd.defaults)
    | _ => false)
  | none => false
theorem Dd.fun_ {d : Dd} {K : Frag} (e : d.fnd K = d.due) (g : d.good K = true) : ∃ fd, Fun K d.name d.qual d.st (d.spot K) fd := by
  unfold Dd.fnd at e
  unfold Dd.good at g
  cases q : K.lookup (d.spot K) with
  | none => rw [q] at g; cases g
  | some o =>
    obtain ⟨oc, od, dt, osl⟩ := o
    rw [q] at e g
    cases dt with
    | func fd =>
      obtain ⟨n1, n2, n3, n4, n5, n6, n7, n8, n9, n10, n11, n12, n13, n14, n15⟩ := fd
      have e2 : (some (n1, n2, n3, n4, n5, n6, n7, n15) : He.FnW) = some (d.name, d.qual, defArgs d.st, .stmts (defBody d.st), defScope d.st, mainGlobals, [], builtinsNs) := e
      have g2 : (PySem.W.keepIn K (.ref (d.spot K)) && (PySem.W.codeIn K n13 d.qual && isNon n8)) = true := g
      obtain ⟨g3, g4⟩ := Bool.and_eq_true_iff.mp g2
      obtain ⟨g5, g6⟩ := Bool.and_eq_true_iff.mp g4
      have e8 : n8 = .none := by
        cases n8 with
        | none => rfl
        | _ => cases g6
      simp only [Option.some.injEq, Prod.mk.injEq] at e2
      obtain ⟨h1, h2, h3, h4, h5, h6, h7, h8⟩ := e2
      subst h1 h2 h3 h4 h5 h6 h7 h8 e8
      exact ⟨_, ⟨oc, od, n9, n10, n11, n12, n13, n14, osl, rfl, q, g5⟩, g3⟩
    | _ => cases g
abbrev Ob : Type := Bool × List He.FnW
def see (fa : List (Frag → Bool)) (ds : List Dd) (K : Frag) : Ob := ((fa.all fun f => f K) && ds.all fun d => d.good K, ds.map fun d => d.fnd K)
def want (ds : List Dd) : Ob := (true, ds.map Dd.due)
def Told (fa : List (Frag → Bool)) (ds : List Dd) (K : Frag) : Prop := see fa ds K = want ds
def seeG (n : Nat) (fa : List (Frag → Bool)) (ds : List Dd) (g : Addr → Option Obj) : Ob := see fa ds (He.frG g (He.asD g n))
def hook (n : Nat) (fa : List (Frag → Bool)) (ds : List Dd) : PySem.W.Hook where
  α := Ob
  obs := fun s => seeG n fa ds s.heap.get?
  val := fun _ => want ds
  says := fun _ h => ∃ K : Frag, K.In h ∧ Told fa ds K
  of := fun _ _ e => ⟨_, He.frG_in, e⟩
  keeps := fun _ _ _ ⟨K, hK, c⟩ k => ⟨K, PySem.W.Frag.In.keeps hK k, c⟩
def obT (n : Nat) (fa : List (Frag → Bool)) (ds : List Dd) (s : PySem.W.SharedT) : Ob := seeG n fa ds (HandSHeadRun.getT s)
theorem obT_eq {n : Nat} {fa : List (Frag → Bool)} {ds : List Dd} (s : PySem.W.SharedT) : obT n fa ds s = (hook n fa ds).obs s.abs := by
  have e : HandSHeadRun.getT s = s.abs.heap.get? := funext (HandSHeadRun.getT_eq s)
  show seeG n fa ds (HandSHeadRun.getT s) = seeG n fa ds s.abs.heap.get?
  rw [e]
section
variable {fa : List (Frag → Bool)} {ds : List Dd} {K : Frag}
theorem Told.fact (c : Told fa ds K) (i : Nat) {f : Frag → Bool} (h : fa[i]? = some f) : f K = true := by
  have c1 := congrArg (fun z : Ob => z.1) c
  have c2 := (Bool.and_eq_true_iff.mp (show ((fa.all fun f => f K) && ds.all fun d => d.good K) = true from c1)).1
  exact List.all_eq_true.mp c2 f (List.mem_of_getElem? h)
theorem Told.def_ (c : Told fa ds K) (i : Nat) {d : Dd} (h : ds[i]? = some d) : ∃ fd, Fun K d.name d.qual d.st (d.spot K) fd := by
  have c1 := congrArg (fun z : Ob => z.1) c
  have c2 := (Bool.and_eq_true_iff.mp (show ((fa.all fun f => f K) && ds.all fun d => d.good K) = true from c1)).2
  have e : ds.map (fun d => d.fnd K) = ds.map Dd.due := congrArg (fun z : Ob => z.2) c
  have e2 : (ds.map fun d => d.fnd K)[i]? = (ds.map Dd.due)[i]? := by rw [e]
  rw [List.getElem?_map, List.getElem?_map, h] at e2
  exact Dd.fun_ (Option.some.inj e2) (List.all_eq_true.mp c2 d (List.mem_of_getElem? h))
end
/-! facts -/
def fo (f : He.Fa) : Frag → Bool := fun K => f.ok K
/-- the property's getter -/
def ga2 (K : Frag) (C f : Str) : Addr := match PySem.W.recIn K (He.ma K (He.ga K C) f) "property" with
  | some (.ref g :: _) => g
  | _ => 0
def isRefHd (o : Option (List Value)) (g : Addr) : Bool := match o with
  | some (.ref h :: _) => decide (h = g)
  | _ => false
/-- the class C has the name f as a property -/
def propB (C f : Str) : Frag → Bool := fun K => He.eqO (PySem.W.findIn K (.ref (He.ga K C)) f) (some (some (.ref (He.ma K (He.ga K C) f)))) &&
  (He.eqO (PySem.W.specialIn K (.ref (He.ma K (He.ga K C) f)) "__get__") (some (some (.builtin "property.__get__"))) &&
  (decide (PySem.W.takesIn K (.ref (He.ma K (He.ga K C) f)) = some true) && isRefHd (PySem.W.recIn K (He.ma K (He.ga K C) f) "property") (ga2 K C f)))
theorem propB_ok {C f : Str} {K : Frag} (h : propB C f K = true) : PropOf K (He.ga K C) f (He.ma K (He.ga K C) f) (ga2 K C f) := by
  obtain ⟨h1, h⟩ := Bool.and_eq_true_iff.mp h
  obtain ⟨h2, h⟩ := Bool.and_eq_true_iff.mp h
  obtain ⟨h3, h4⟩ := Bool.and_eq_true_iff.mp h
  refine ⟨He.eqO_ok h1, He.eqO_ok h2, of_decide_eq_true h3, ?_⟩
  unfold isRefHd at h4
  cases q : PySem.W.recIn K (He.ma K (He.ga K C) f) "property" with
  | none => rw [q] at h4; cases h4
  | some l =>
    rw [q] at h4
    cases l with
    | nil => cases h4
    | cons v r =>
      cases v with
      | ref g =>
        have e : g = ga2 K C f := of_decide_eq_true h4
        exact ⟨r, by rw [e]⟩
      | _ => cases h4
/-- how the law's def binds, at every heap -/
theorem bindsA {K : Frag} {x qual : Str} {st : Stmt} {f : Addr} {fd : FuncData} {ps : List Str} (F : Fun K x qual st f fd)
    (h : ∀ (kV doc pm : Value) (an : Option Addr) (cdv ct : Value) (us : List Value), us.length = ps.length → bindArgs (PySem.W.fnOf x qual (defArgs st) (defBody st) (defScope st) .none kV doc pm an cdv ct) ⟨us, []⟩ = pure (ps.zip us))
    (s : Shared) (us : List Value) (hl : us.length = ps.length) : BindsTo s fd ⟨us, []⟩ (ps.zip us) := by
  obtain ⟨_, _, kV, doc, pm, an, cdv, ct, _, e, _⟩ := F.ex
  subst e
  exact BindsTo.of_eq (h kV doc pm an cdv ct us hl)
end Oh

/-! Own layer: steps through a reading, one small lemma a construct, so that a tactic can take them by the goal's head. -/
namespace Ox
open PySem PySem.Spec PyProof.Rows L2
/-! ### further operators -/
section
variable {X : Cx}
theorem op_mulA : OpR X (binaryOp .Mult) (rI IntMulOk fun i j => .int (i * j)) := opI fun _ _ _ _ _ _ _ hc q => mul_int q hc
theorem op_fdivA : OpR X (binaryOp .FloorDiv) (rI CDivW fun i j => .int (i / j)) := op_fdivW
def CPowW (i j : Int) : Prop := 0 ≤ j ∧ (Builtin.Int.intBits i : Int) * j ≤ 2 ^ 27
theorem op_powW : OpR X (binaryOp .Pow) (rI CPowW fun i j => .int (i ^ j.toNat)) := opI fun _ _ _ _ _ _ _ hc q => pow_int hc.1 hc.2 q
end
theorem mulok_l {i j : Int} (h1 : -(2 ^ 63) ≤ i) (h2 : i < 2 ^ 63) : IntMulOk i j := CMul.ok (.inl ⟨by omega, by omega⟩)
theorem mulok_r {i j : Int} (h1 : -(2 ^ 63) ≤ j) (h2 : j < 2 ^ 63) : IntMulOk i j := CMul.ok (.inr ⟨by omega, by omega⟩)
theorem divok {i j : Int} (h : 0 < j) (h2 : j < 2 ^ 62) : CDivW i j := wide_div (b := 62) h (by omega) (by decide) (by decide)
/-! ### callees -/
section
variable (P : Program) (w : World) (K : PySem.W.Frag) (mg : Str → Option Value) (base : Heap)
/-- the module's name x is a def of level k that keeps the promise sp -/
structure Cal (k : Nat) (x : Str) (ps : List Str) (sp : Sp) : Prop where
  ex : ∃ f fd, FnOk P w K mg base CX0 k f fd ps sp ∧ mg x = some (.ref f) ∧ PySem.W.keepIn K (.ref f) = true ∧ Binds K fd ps []
/-- the module's name x is the class at C, made by an __init__ of level k -/
structure Mkc (C : Addr) (k : Nat) (x : Str) (ps : List Str) (sp : Sp) : Prop where
  ex : ∃ f fd, Mk K C f ∧ FnOk P w K mg base CX0 k f fd ps sp ∧ mg x = some (.ref C) ∧ Binds K fd ps []
structure Met (C : Addr) (k : Nat) (m : Str) (ps : List Str) (sp : Sp) : Prop where
  ex : ∃ f fd, Meth K C m f ∧ FnOk P w K mg base CX0 k f fd ps sp ∧ Binds K fd ps []
structure Prp (C : Addr) (k : Nat) (m : Str) (sp : Sp) : Prop where
  ex : ∃ p f fd, PropOf K C m p f ∧ FnOk P w K mg base CX0 k f fd ["self"] sp ∧ Binds K fd ["self"] []
end
section
variable {X : Cx} {k : Nat} {x : Str} {ps : List Str} {sp : Sp} {e : Expr} {es : List Expr} {t : TA} {pos p : Pos} {C : Addr} {ta : TE} {m : Str}
theorem pe_cal (c : Cal X.prog X.w X.K X.mg X.base k x ps sp) (hr : Room k X.A) (hg : Gl X x) (ha : PA X (e :: es) t)
    (hs : starEach (e :: es) X.env = (false, eval e X.env) :: starEach es X.env := by rfl) (hp : (backTo pos (starEach es X.env)).any (·.1) = false := by rfl)
    (hdb : (x == ("__debug__" : Str)) = false := by decide) : PE X (.Call (.Name x p) (e :: es) [] pos) (tCall sp [] E0 t) := by
  obtain ⟨f, fd, F, g, kp, b⟩ := c.ex
  exact pe_call F hr hg g kp b .nil pass0 ha hdb hs hp
theorem pe_cal0 (c : Cal X.prog X.w X.K X.mg X.base k x ps sp) (hr : Room k X.A) (hg : Gl X x)
    (hdb : (x == ("__debug__" : Str)) = false := by decide) : PE X (.Call (.Name x p) [] [] pos) (tCall sp [] E0 tNil) := by
  obtain ⟨f, fd, F, g, kp, b⟩ := c.ex
  exact pe_call0 F hr hg g kp b .nil pass0 hdb
theorem pe_mk (c : Mkc X.prog X.w X.K X.mg X.base C k x ps sp) (hr : Room (k + 1) X.A) (hg : Gl X x) (ha : PA X (e :: es) t)
    (hs : starEach (e :: es) X.env = (false, eval e X.env) :: starEach es X.env := by rfl) (hp : (backTo pos (starEach es X.env)).any (·.1) = false := by rfl)
    (hdb : (x == ("__debug__" : Str)) = false := by decide) : PE X (.Call (.Name x p) (e :: es) [] pos) (tMake C sp [] E0 t) := by
  obtain ⟨f, fd, M, F, g, b⟩ := c.ex
  exact pe_make M F hr hg g b .nil pass0 ha hdb hs hp
theorem pe_prp {p' : Expr} (c : Prp X.prog X.w X.K X.mg X.base C k m sp) (kc : Cls X.K C) (hr : Room (k + 1) X.A) (he : PE X p' ta)
    (hab : attributeBase p' m X.env (eval p' X.env) = eval p' X.env := by rfl) : PE X (.Attribute p' m pos) (tProp C sp [] E0 ta) := by
  obtain ⟨q, f, fd, hp, F, b⟩ := c.ex
  exact pe_prop he kc hp F hr b .nil pass0 hab
end
/-! ### steps -/
section
variable {σ : L2.St} {H : Hp} {Q : VK} {i : Nat} {v x y : V} {ta tb te tc : TE} {n : L2.St → Hp → Prop} {r : VK} {b c : L2.St → Hp → Prop} {t u : TS} {tt tu : TT} {R : Bool → Hp → Prop} {K : PySem.W.Frag} {al : TA} {W : List V → Hp → Prop}
theorem x_var (h : σ[i]? = some (some v)) (q : Q v H) : tVar i σ H Q := ⟨v, h, q⟩
theorem x_c (q : Q v H) : tC v σ H Q := q
theorem x_op {o : R2} (q : ta σ H fun x H1 => tb σ H1 fun y H2 => o x y H2 Q) : tOp o ta tb σ H Q := q
theorem x_un {o : V → Hp → VK → Prop} (q : ta σ H fun x H1 => o x H1 Q) : tUn o ta σ H Q := q
theorem x_I0 {g : Int → Int → V} {i j : Int} (q : Q (g i j) H) : rI0 g (.int i) (.int j) H Q := ⟨i, j, rfl, rfl, q⟩
theorem x_I {C : Int → Int → Prop} {g : Int → Int → V} {i j : Int} (hc : C i j) (q : Q (g i j) H) : rI C g (.int i) (.int j) H Q := ⟨i, j, rfl, rfl, hc, q⟩
theorem x_U {g : Int → V} {i : Int} (q : Q (g i) H) : rU g (.int i) H Q := ⟨i, rfl, q⟩
theorem x_eqI {i j : Int} (q : Q (.bl (decide (i = j))) H) : rEq (.int i) (.int j) H Q := ⟨rfl, by rw [show decide (V.int i = V.int j) = decide (i = j) from by simp]; exact q⟩
theorem x_eqS {i j : Str} (q : Q (.bl (decide (i = j))) H) : rEq (.str i) (.str j) H Q := ⟨rfl, by rw [show decide (V.str i = V.str j) = decide (i = j) from by simp]; exact q⟩
theorem x_eqB {i j : Bool} (q : Q (.bl (decide (i = j))) H) : rEq (.bl i) (.bl j) H Q := ⟨rfl, by rw [show decide (V.bl i = V.bl j) = decide (i = j) from by simp]; exact q⟩
theorem x_neI {i j : Int} (q : Q (.bl (!decide (i = j))) H) : rNe (.int i) (.int j) H Q := ⟨rfl, by rw [show decide (V.int i = V.int j) = decide (i = j) from by simp]; exact q⟩
theorem x_neS {i j : Str} (q : Q (.bl (!decide (i = j))) H) : rNe (.str i) (.str j) H Q := ⟨rfl, by rw [show decide (V.str i = V.str j) = decide (i = j) from by simp]; exact q⟩
theorem x_neB {i j : Bool} (q : Q (.bl (!decide (i = j))) H) : rNe (.bl i) (.bl j) H Q := ⟨rfl, by rw [show decide (V.bl i = V.bl j) = decide (i = j) from by simp]; exact q⟩
theorem x_bl {k : Bool} (q : R k H) : ∃ c, V.bl k = V.bl c ∧ R c H := ⟨k, rfl, q⟩
theorem x_test (q : te σ H fun x H1 => ∃ k, x = .bl k ∧ R k H1) : tTest te σ H R := q
theorem x_B (q : te σ H fun x H1 => ∃ k, x = .bl k ∧ R k H1) : tB te σ H R := q
theorem x_not (q : tt σ H fun c H1 => R (!c) H1) : tNot tt σ H R := q
theorem x_and (q : tt σ H fun c H1 => if c = true then tu σ H1 R else R false H1) : tAnd tt tu σ H R := q
theorem x_or (q : tt σ H fun c H1 => if c = true then R true H1 else tu σ H1 R) : tOr tt tu σ H R := q
theorem x_andV (q : ta σ H fun x H1 => ∃ c, x = .bl c ∧ if c = true then tb σ H1 Q else Q (.bl false) H1) : tAndV ta tb σ H Q := q
theorem x_orV (q : ta σ H fun x H1 => ∃ c, x = .bl c ∧ if c = true then Q (.bl true) H1 else tb σ H1 Q) : tOrV ta tb σ H Q := q
theorem x_notV (q : ta σ H fun x H1 => ∃ c, x = .bl c ∧ Q (.bl (!c)) H1) : tNotV ta σ H Q := q
theorem x_blV {k : Bool} {F : Bool → Prop} (q : F k) : ∃ c, V.bl k = V.bl c ∧ F c := ⟨k, rfl, q⟩
theorem x_ifE (q : tt σ H fun c H1 => if c = true then ta σ H1 Q else tb σ H1 Q) : tIf tt ta tb σ H Q := q
theorem x_chain {o o' : R2} (q : ta σ H fun x H1 => tb σ H1 fun y H2 => o x y H2 fun z H3 => ∃ k, z = .bl k ∧ (if k = true then tc σ H3 fun w' H4 => o' y w' H4 Q else Q (.bl false) H3)) : tChain o o' ta tb tc σ H Q := q
theorem x_nil (q : W [] H) : tNil σ H W := q
theorem x_cons {ar : TA} (q : ta σ H fun x H1 => ar σ H1 fun xs H2 => W (x :: xs) H2) : tCons ta ar σ H W := q
theorem x_tup (q : al σ H fun xs H1 => xs.length ≤ sizeLine ∧ ∀ p, H1 p = none → Q (.ref p) (upd H1 p (.tup xs))) : tTup al σ H Q := q
theorem x_lst (q : al σ H fun xs H1 => xs.length ≤ sizeLine ∧ ∀ p, H1 p = none → Q (.ref p) (upd H1 p (.lst xs))) : tLst al σ H Q := q
theorem x_cb {o : List V → Hp → VK → Prop} (q : al σ H fun vs H1 => o vs H1 Q) : tCB o al σ H Q := q
theorem x_call {sp : Sp} {E : XK} (q : al σ H fun vs H1 => sp vs H1 Q E) : tCall sp [] E al σ H Q := by
  show al σ H fun vs H1 => sp (vs ++ []) H1 Q E
  have e : (fun (vs : List V) (H1 : Hp) => sp (vs ++ []) H1 Q E) = fun vs H1 => sp vs H1 Q E := by
    funext vs H1
    rw [List.append_nil]
  rw [e]
  exact q
theorem x_make {C : Addr} {sp : Sp} {E : XK} (q : al σ H fun vs H1 => ∀ x dx, H1 x = none → H1 dx = none → dx ≠ x → sp (.ref x :: vs) (upd (upd H1 dx (.own x)) x (.ins C dx [])) (fun v H2 => v = .non ∧ Q (.ref x) H2) E) : tMake C sp [] E al σ H Q := by
  have e : (fun (vs : List V) (H1 : Hp) => ∀ x dx, H1 x = none → H1 dx = none → dx ≠ x → sp (.ref x :: (vs ++ [])) (upd (upd H1 dx (.own x)) x (.ins C dx [])) (fun v H2 => v = .non ∧ Q (.ref x) H2) E) =
      fun (vs : List V) (H1 : Hp) => ∀ x dx, H1 x = none → H1 dx = none → dx ≠ x → sp (.ref x :: vs) (upd (upd H1 dx (.own x)) x (.ins C dx [])) (fun v H2 => v = .non ∧ Q (.ref x) H2) E := by
    funext vs H1
    rw [List.append_nil]
  show al σ H fun vs H1 => ∀ x dx, H1 x = none → H1 dx = none → dx ≠ x → sp (.ref x :: (vs ++ [])) (upd (upd H1 dx (.own x)) x (.ins C dx [])) (fun v H2 => v = .non ∧ Q (.ref x) H2) E
  rw [e]
  exact q
/-! ### statements -/
theorem x_seq (h : t ⟨u ⟨n, r, b, c⟩, r, b, c⟩ σ H) : tSeq t u ⟨n, r, b, c⟩ σ H := h
theorem x_next (h : n σ H) : tNext ⟨n, r, b, c⟩ σ H := h
theorem x_brk (h : b σ H) : tBreak ⟨n, r, b, c⟩ σ H := h
theorem x_cont (h : c σ H) : tCont ⟨n, r, b, c⟩ σ H := h
theorem x_ret (h : te σ H r) : tRet te ⟨n, r, b, c⟩ σ H := h
theorem x_retN (h : r .non H) : tRetN ⟨n, r, b, c⟩ σ H := h
theorem x_drop (h : te σ H fun _ H1 => n σ H1) : tDrop te ⟨n, r, b, c⟩ σ H := h
theorem x_set (h : te σ H fun v H1 => n (σ.set i (some v)) H1) : tAsg te (gName i) ⟨n, r, b, c⟩ σ H := h
theorem x_if (h : tt σ H fun k H1 => if k = true then t ⟨n, r, b, c⟩ σ H1 else u ⟨n, r, b, c⟩ σ H1) : tIfS tt t u ⟨n, r, b, c⟩ σ H := h
theorem x_nx (h : n σ H) : (Ends.mk n r b c).nx σ H := h
theorem x_par {i j : Nat} (h : al σ H fun vs H1 => ∃ v w, vs = [v, w] ∧ n ((σ.set i (some v)).set j (some w)) H1) : tPar i j al ⟨n, r, b, c⟩ σ H := h
theorem x_par2 {F : V → V → Prop} {v w : V} (h : F v w) : ∃ v' w', [v, w] = [v', w'] ∧ F v' w' := ⟨v, w, rfl, h⟩
theorem x_aug {j : Nat} {tip : TIp} (hx : σ[j]? = some (some x)) (h : te σ H fun y H1 => tip x y H1 fun z H2 => n (σ.set j (some z)) H2) : tAug j te tip ⟨n, r, b, c⟩ σ H := ⟨x, hx, h⟩
theorem x_ipI {f : Int → Int → Int} {i j : Int} (q : Q (.int (f i j)) H) : ipI f (.int i) (.int j) H Q := ⟨i, j, rfl, rfl, q⟩
/-- xs[i] = v -/
theorem x_setL (h : te σ H fun v H0 => ta σ H0 fun o H1 => tb σ H1 fun k H2 => rSetL o k v H2 fun H3 => n σ H3) : tAsg te (gSub ta tb rSetL) ⟨n, r, b, c⟩ σ H := h
theorem x_setl {l : Addr} {xs : List V} {j : Nat} {k : Int} {N : Hp → Prop} (h : H l = some (.lst xs)) (hk : k = (j : Int)) (hj : j < xs.length) (q : N (upd H l (.lst (xs.set j v)))) : rSetL (.ref l) (.int k) v H N :=
  ⟨l, xs, k, j, rfl, rfl, h, by subst hk; unfold ixN; rw [if_pos (by omega), if_pos (by omega)]; simp, q⟩
/-- a test decided -/
theorem x_ite {A B : Prop} {k : Bool} (h1 : k = true → A) (h2 : k = false → B) : if k = true then A else B := by
  cases k with
  | true => exact h1 rfl
  | false =>
    show if false = true then A else B
    rw [if_neg Bool.false_ne_true]
    exact h2 rfl
theorem x_dec {A B p : Prop} [Decidable p] (h1 : p → A) (h2 : ¬ p → B) : if decide p = true then A else B := x_ite (fun e => h1 (of_decide_eq_true e)) fun e => h2 (of_decide_eq_false e)
theorem x_ndec {A B p : Prop} [Decidable p] (h1 : ¬ p → A) (h2 : p → B) : if (!decide p) = true then A else B := x_ite (fun e => h1 (of_decide_eq_false (by simpa using e))) fun e => h2 (of_decide_eq_true (by simpa using e))
theorem x_yes {A B p : Prop} [Decidable p] (hp : p) (h1 : A) : if decide p = true then A else B := x_dec (fun _ => h1) fun z => absurd hp z
theorem x_no {A B p : Prop} [Decidable p] (hp : ¬ p) (h2 : B) : if decide p = true then A else B := x_dec (fun z => absurd z hp) fun _ => h2
theorem x_T {A B : Prop} (h : A) : if true = true then A else B := x_ite (fun _ => h) fun z => by cases z
theorem x_F {A B : Prop} (h : B) : if false = true then A else B := x_ite (fun z => by cases z) fun _ => h
theorem x_nT {A B : Prop} (h : B) : if (!true) = true then A else B := x_F h
theorem x_nF {A B : Prop} (h : A) : if (!false) = true then A else B := x_T h
theorem x_nyes {A B p : Prop} [Decidable p] (hp : p) (h2 : B) : if (!decide p) = true then A else B := x_ndec (fun z => absurd hp z) fun _ => h2
theorem x_nno {A B p : Prop} [Decidable p] (hp : ¬ p) (h1 : A) : if (!decide p) = true then A else B := x_ndec (fun _ => h1) fun z => absurd z hp
/-! ### values of built-ins -/
theorem x_ixL {p : Addr} {xs : List V} {k : Int} (h : SqL K H p xs) (ha : atI xs k = some v) (q : Q v H) : rIxL K (.ref p) (.int k) H Q := ⟨p, xs, k, v, rfl, rfl, h, ha, q⟩
theorem x_ixT {p : Addr} {xs : List V} {k : Int} (h : SqT K H p xs) (ha : atI xs k = some v) (q : Q v H) : rIxT K (.ref p) (.int k) H Q := ⟨p, xs, k, v, rfl, rfl, h, ha, q⟩
theorem x_ixS {z : Str} {k : Int} {d : Nat} (h : z.length ≤ sizeLine) (ha : atI z.cps.toList k = some d) (q : Q (.str ⟨#[d]⟩) H) : rIxS (.str z) (.int k) H Q := ⟨z, k, d, rfl, rfl, h, ha, q⟩
theorem x_bm {T : String} {o : V → List V → Hp → VK → Prop} (q : ta σ H fun x H1 => tyV K T x H1 ∧ al σ H1 fun xs H2 => o x xs H2 Q) : tBM K T o ta al σ H Q := q
theorem x_bm0 {T : String} {o : V → List V → Hp → VK → Prop} (q : ta σ H fun x H1 => tyV K T x H1 ∧ o x [] H1 Q) : tBM0 K T o ta σ H Q := q
theorem x_tyL {p : Addr} {xs : List V} {A : Prop} (h : SqL K H p xs) (q : A) : tyV K "list" (.ref p) H ∧ A := ⟨.inl ⟨rfl, xs, h⟩, q⟩
theorem x_app {l : Addr} {xs : List V} (h : H l = some (.lst xs)) (hl : xs.length < sizeLine) (q : Q .non (upd H l (.lst (xs ++ [y])))) : rAppend (.ref l) [y] H Q := ⟨l, xs, y, rfl, rfl, h, hl, q⟩
theorem x_popAt {l : Addr} {xs : List V} {j : Nat} {k : Int} (h : H l = some (.lst xs)) (hk : k = (j : Int)) (hj : xs[j]? = some y) (hs : xs.length ≤ 10000) (q : Q y (upd H l (.lst (xs.eraseIdx j)))) : rPopAt (.ref l) [.int k] H Q := by
  have hlt : j < xs.length := (List.getElem?_eq_some_iff.mp hj).1
  subst hk
  refine ⟨l, xs, _, j, y, rfl, rfl, h, by omega, by omega, ?_, hj, q⟩
  unfold seqIndex?
  first
    | (rw [if_neg (by omega), if_pos (by omega)]; simp)
    | (simp; omega)
    | (simp [hlt])
end
/-! ### loops, each by a word over turn, slots and heap -/
section
variable {σ : L2.St} {H : Hp} {te : TE} {n : L2.St → Hp → Prop} {r : VK} {b c : L2.St → Hp → Prop} {tb : TS} {g : TG} {K : PySem.W.Frag} {al : TA} {p : Addr}
/-- the loop over what J tells -/
def Lp (J : It) (g : TG) (tb : TS) (D : Ends) (σ : L2.St) (H : Hp) : Prop := ∃ W : Nat → Nat → L2.St → Hp → Prop, (∃ m, W 0 m σ H) ∧ ∀ i m σ H, W i m σ H →
  (J.stop i H ∧ D.nx σ H) ∨ (J.go i H ∧ ∃ N : L2.St → Hp → Prop, (∀ σ' H', N σ' H' → ∃ m', m' < m ∧ W (i + 1) m' σ' H') ∧ ∀ x H', J.yld i H x H' → g x σ H' fun σ2 H2 => tb { D with nx := N, ct := N, bk := D.nx } σ2 H2)
def LpL (K : PySem.W.Frag) (g : TG) (tb : TS) (D : Ends) (σ : L2.St) (x : V) (H : Hp) : Prop := ∃ a, x = .ref a ∧ (∃ xs, SqL K H a xs) ∧ Lp (Itl K a) g tb D σ H
def LpT (K : PySem.W.Frag) (g : TG) (tb : TS) (D : Ends) (σ : L2.St) (x : V) (H : Hp) : Prop := ∃ a, x = .ref a ∧ (∃ xs, SqT K H a xs) ∧ Lp (Itt K a) g tb D σ H
def LpR (g : TG) (tb : TS) (D : Ends) (σ : L2.St) (vs : List V) (H : Hp) : Prop := ∃ j : Int, vs = [.int j] ∧ -(2 ^ 62) ≤ j ∧ j < 2 ^ 62 ∧ Lp (Itr 0 j.toNat) g tb D σ H
def LpR2 (g : TG) (tb : TS) (D : Ends) (σ : L2.St) (vs : List V) (H : Hp) : Prop := ∃ i j : Int, vs = [.int i, .int j] ∧ (-(2 ^ 62) ≤ i ∧ i < 2 ^ 62 ∧ -(2 ^ 62) ≤ j ∧ j < 2 ^ 62) ∧ Lp (Itr i (j - i).toNat) g tb D σ H
def LpS (g : TG) (tb : TS) (D : Ends) (σ : L2.St) (x : V) (H : Hp) : Prop := ∃ z, x = .str z ∧ Lp (Its z) g tb D σ H
def LpK (g : TG) (tb : TS) (D : Ends) (σ : L2.St) (x : V) (H : Hp) : Prop := ∃ d o, x = .ref d ∧ ((∃ kvs, H d = some (.frz o (.dK kvs)) ∧ Lp (Itk d o kvs) g tb D σ H) ∨ ∃ kvs, H d = some (.frz o (.dT kvs)) ∧ Lp (Itkt d o kvs) g tb D σ H)
def LpI (g : TG) (tb : TS) (D : Ends) (σ : L2.St) (x : V) (H : Hp) : Prop := ∃ d o kvs, x = .ref d ∧ H d = some (.frz o (.dK kvs)) ∧ Lp (Iti d o kvs) g tb D σ H
def LpV (g : TG) (tb : TS) (D : Ends) (σ : L2.St) (x : V) (H : Hp) : Prop := ∃ d o kvs, x = .ref d ∧ H d = some (.frz o (.dK kvs)) ∧ Lp (Itd d o kvs) g tb D σ H
theorem x_forL (h : te σ H fun x H1 => LpL K g tb ⟨n, r, b, c⟩ σ x H1) : tFor (iList K te) g tb ⟨n, r, b, c⟩ σ H := h
theorem x_forT (h : te σ H fun x H1 => LpT K g tb ⟨n, r, b, c⟩ σ x H1) : tFor (iTup K te) g tb ⟨n, r, b, c⟩ σ H := h
theorem x_forR (h : al σ H fun x H1 => LpR g tb ⟨n, r, b, c⟩ σ x H1) : tFor (iRng1 al) g tb ⟨n, r, b, c⟩ σ H := h
theorem x_forR2 (h : al σ H fun x H1 => LpR2 g tb ⟨n, r, b, c⟩ σ x H1) : tFor (iRng2 al) g tb ⟨n, r, b, c⟩ σ H := h
theorem x_forS (h : te σ H fun x H1 => LpS g tb ⟨n, r, b, c⟩ σ x H1) : tFor (iStr te) g tb ⟨n, r, b, c⟩ σ H := h
theorem x_forK (h : te σ H fun x H1 => LpK g tb ⟨n, r, b, c⟩ σ x H1) : tFor (iKeys te) g tb ⟨n, r, b, c⟩ σ H := h
theorem x_forI (h : te σ H fun x H1 => LpI g tb ⟨n, r, b, c⟩ σ x H1) : tFor (iItems te) g tb ⟨n, r, b, c⟩ σ H := h
theorem x_forV (h : te σ H fun x H1 => LpV g tb ⟨n, r, b, c⟩ σ x H1) : tFor (iVals te) g tb ⟨n, r, b, c⟩ σ H := h
/-- a name of the loop: the turn stores it -/
theorem lp_by {J : It} {m : Nat} {G : Hp → Prop} {Y : Nat → Hp → V → Hp → Prop} (w : L2.Walk J m G Y) (Pv : Nat → L2.St → Hp → Prop) (h0 : Pv 0 σ H) (hG : ∀ i σ H, i ≤ m → Pv i σ H → G H)
    (hs : ∀ i x σ H H', i < m → Pv i σ H → Y i H x H' → g x σ H' fun σ2 H2 => tb ⟨Pv (i + 1), r, n, Pv (i + 1)⟩ σ2 H2) (hd : ∀ σ H, Pv m σ H → n σ H) : Lp J g tb ⟨n, r, b, c⟩ σ H := L2.for_it w Pv h0 hG hs hd
theorem lpL {xs : List V} (Pv : Nat → L2.St → Hp → Prop) (h : SqL K H p xs) (h0 : Pv 0 σ H) (hG : ∀ i σ H, i ≤ xs.length → Pv i σ H → SqL K H p xs)
    (hs : ∀ i x σ H, xs[i]? = some x → Pv i σ H → g x σ H fun σ2 H2 => tb ⟨Pv (i + 1), r, n, Pv (i + 1)⟩ σ2 H2) (hd : ∀ σ H, Pv xs.length σ H → n σ H) : LpL K g tb ⟨n, r, b, c⟩ σ (.ref p) H :=
  ⟨p, rfl, ⟨xs, h⟩, lp_by walk_list Pv h0 hG (fun i x σ H H' _ hp y => by obtain ⟨rfl, e⟩ := y; exact hs i x σ _ e hp) hd⟩
theorem lpT {xs : List V} (Pv : Nat → L2.St → Hp → Prop) (h : SqT K H p xs) (h0 : Pv 0 σ H) (hG : ∀ i σ H, i ≤ xs.length → Pv i σ H → SqT K H p xs)
    (hs : ∀ i x σ H, xs[i]? = some x → Pv i σ H → g x σ H fun σ2 H2 => tb ⟨Pv (i + 1), r, n, Pv (i + 1)⟩ σ2 H2) (hd : ∀ σ H, Pv xs.length σ H → n σ H) : LpT K g tb ⟨n, r, b, c⟩ σ (.ref p) H :=
  ⟨p, rfl, ⟨xs, h⟩, lp_by walk_tup Pv h0 hG (fun i x σ H H' _ hp y => by obtain ⟨rfl, e⟩ := y; exact hs i x σ _ e hp) hd⟩
theorem lpR {j : Int} (Pv : Nat → L2.St → Hp → Prop) (hj : -(2 ^ 62) ≤ j ∧ j < 2 ^ 62) (h0 : Pv 0 σ H)
    (hs : ∀ i σ H, i < j.toNat → Pv i σ H → g (.int (i : Int)) σ H fun σ2 H2 => tb ⟨Pv (i + 1), r, n, Pv (i + 1)⟩ σ2 H2) (hd : ∀ σ H, Pv j.toNat σ H → n σ H) : LpR g tb ⟨n, r, b, c⟩ σ [.int j] H :=
  ⟨j, rfl, hj.1, hj.2, lp_by walk_range Pv h0 (fun _ _ _ _ _ => trivial) (fun i x σ H H' hi hp y => by
    obtain ⟨rfl, rfl⟩ := y
    dsimp only
    rw [Int.zero_add]
    exact hs i σ _ hi hp) hd⟩
theorem lpR2 {i0 j : Int} (Pv : Nat → L2.St → Hp → Prop) (hj : (-(2 ^ 62) ≤ i0 ∧ i0 < 2 ^ 62 ∧ -(2 ^ 62) ≤ j ∧ j < 2 ^ 62)) (h0 : Pv 0 σ H)
    (hs : ∀ i σ H, i < (j - i0).toNat → Pv i σ H → g (.int (i0 + (i : Int))) σ H fun σ2 H2 => tb ⟨Pv (i + 1), r, n, Pv (i + 1)⟩ σ2 H2) (hd : ∀ σ H, Pv (j - i0).toNat σ H → n σ H) : LpR2 g tb ⟨n, r, b, c⟩ σ [.int i0, .int j] H :=
  ⟨i0, j, rfl, hj, lp_by walk_range Pv h0 (fun _ _ _ _ _ => trivial) (fun i x σ H H' hi hp y => by
    obtain ⟨rfl, rfl⟩ := y
    exact hs i σ _ hi hp) hd⟩
theorem lpS {z : Str} (Pv : Nat → L2.St → Hp → Prop) (h0 : Pv 0 σ H)
    (hs : ∀ i d σ H, z.cps[i]? = some d → Pv i σ H → g (.str ⟨#[d]⟩) σ H fun σ2 H2 => tb ⟨Pv (i + 1), r, n, Pv (i + 1)⟩ σ2 H2) (hd : ∀ σ H, Pv z.cps.size σ H → n σ H) : LpS g tb ⟨n, r, b, c⟩ σ (.str z) H :=
  ⟨z, rfl, lp_by walk_str Pv h0 (fun _ _ _ _ _ => trivial) (fun i x σ H H' hi hp y => by
    obtain ⟨rfl, d, e, rfl⟩ := y
    exact hs i d σ _ e hp) hd⟩
theorem lpK {o : Obj} {kvs : List (Key × V)} (Pv : Nat → L2.St → Hp → Prop) (h : H p = some (.frz o (.dK kvs))) (h0 : Pv 0 σ H) (hG : ∀ i σ H, i ≤ kvs.length → Pv i σ H → H p = some (.frz o (.dK kvs)))
    (hs : ∀ i k v σ H, kvs[i]? = some (k, v) → Pv i σ H → g (kV k) σ H fun σ2 H2 => tb ⟨Pv (i + 1), r, n, Pv (i + 1)⟩ σ2 H2) (hd : ∀ σ H, Pv kvs.length σ H → n σ H) : LpK g tb ⟨n, r, b, c⟩ σ (.ref p) H :=
  ⟨p, o, rfl, .inl ⟨kvs, h, lp_by walk_keys Pv h0 hG (fun i x σ H H' _ hp y => by
    obtain ⟨rfl, k, v, e, rfl⟩ := y
    exact hs i k v σ _ e hp) hd⟩⟩
theorem lpV {o : Obj} {kvs : List (Key × V)} (Pv : Nat → L2.St → Hp → Prop) (h : H p = some (.frz o (.dK kvs))) (h0 : Pv 0 σ H) (hG : ∀ i σ H, i ≤ kvs.length → Pv i σ H → H p = some (.frz o (.dK kvs)))
    (hs : ∀ i k v σ H, kvs[i]? = some (k, v) → Pv i σ H → g v σ H fun σ2 H2 => tb ⟨Pv (i + 1), r, n, Pv (i + 1)⟩ σ2 H2) (hd : ∀ σ H, Pv kvs.length σ H → n σ H) : LpV g tb ⟨n, r, b, c⟩ σ (.ref p) H :=
  ⟨p, o, kvs, rfl, h, lp_by walk_values Pv h0 hG (fun i x σ H H' _ hp y => by
    obtain ⟨rfl, k, e⟩ := y
    exact hs i k x σ _ e hp) hd⟩
/-- the pairs, a new tuple each -/
theorem lpI {o : Obj} {kvs : List (Key × V)} (Pv : Nat → L2.St → Hp → Prop) (h : H p = some (.frz o (.dK kvs))) (h0 : Pv 0 σ H) (hG : ∀ i σ H, i ≤ kvs.length → Pv i σ H → H p = some (.frz o (.dK kvs)))
    (hs : ∀ i k v σ H T, kvs[i]? = some (k, v) → Pv i σ H → H T = none → g (.ref T) σ (upd H T (.tup [kV k, v])) fun σ2 H2 => tb ⟨Pv (i + 1), r, n, Pv (i + 1)⟩ σ2 H2) (hd : ∀ σ H, Pv kvs.length σ H → n σ H) : LpI g tb ⟨n, r, b, c⟩ σ (.ref p) H :=
  ⟨p, o, kvs, rfl, h, lp_by walk_items Pv h0 hG (fun i x σ H H' hi hp y => by
    obtain ⟨T, k, v, rfl, hT, rfl, e1, e2⟩ := y
    dsimp only at e1 e2
    cases e : kvs[i]? with
    | none => rw [e] at e1; cases e1
    | some kv =>
      rw [e] at e1 e2
      have e3 : kV kv.1 = k := Option.some.inj e1
      have e4 : kv.2 = v := Option.some.inj e2
      subst e3 e4
      exact hs i kv.1 kv.2 σ _ T e hp hT) hd⟩
theorem x_g1 {v : V} {i : Nat} {N : L2.St → Hp → Prop} (h : N (σ.set i (some v)) H) : gName i v σ H N := h
theorem x_g2 {T : Addr} {v w : V} {i j : Nat} {N : L2.St → Hp → Prop} (ht : SqT K H T [v, w]) (h : N ((σ.set i (some v)).set j (some w)) H) : gTup K 2 (gCons (gName i) (gCons (gName j) gNil)) (.ref T) σ H N :=
  ⟨T, [v, w], rfl, ht, rfl, v, [w], rfl, w, [], rfl, rfl, h⟩
end
/-! ### heaps: all but one kept -/
def But (p : Addr) (H H' : Hp) : Prop := ∀ b o, H b = some o → b ≠ p → H' b = some o
theorem But.refl {p : Addr} {H : Hp} : But p H H := fun _ _ h _ => h
theorem But.trans {p : Addr} {H H1 H2 : Hp} (a : But p H H1) (b : But p H1 H2) : But p H H2 := fun q o h e => b q o (a q o h e) e
theorem But.at_ {p : Addr} {H H' : Hp} {o : HO} (a : But p H H') : But p H (upd H' p o) := fun q u h e => by rw [upd_ne e]; exact a q u h e
theorem But.new {p q : Addr} {H H' : Hp} {o : HO} (a : But p H H') (h : H' q = none) : But p H (upd H' q o) := fun b u hb e => by
  have h1 := a b u hb e
  rw [upd_ne (ne_of_none h1 h)]
  exact h1
theorem But.of_same {p : Addr} {H H' : Hp} (a : L2.Same H H') : But p H H' := fun b o h _ => a b o h
theorem But.lst {K : PySem.W.Frag} {p q : Addr} {xs : List V} {H H' : Hp} (a : But p H H') (e : q ≠ p) (h : SqL K H q xs) : SqL K H' q xs := by
  rcases h with (h | ⟨o, h⟩) | h
  · exact .inl (.inl (a _ _ h e))
  · exact .inl (.inr ⟨o, a _ _ h e⟩)
  · exact .inr h
theorem ne_old {H : Hp} {a b : Addr} {o : HO} (h' : H b = none) (h : H a = some o) : a ≠ b := ne_of_none h h'
theorem ne_two {H : Hp} {a b : Addr} {o u : HO} (h : H a = some o) (h' : H b = some u) (d : o ≠ u) : a ≠ b := ne_of h h' d
/-! ### named readings of rules (so that a step can be told by its head) -/
def rLenA (K : PySem.W.Frag) : List V → Hp → VK → Prop := fun xs H Q => ∃ x n, xs = [x] ∧ LenV K x H n ∧ Q (.int n) H
def rLenDA : List V → Hp → VK → Prop := fun xs H Q => ∃ a kvs, xs = [V.ref a] ∧ Rd H a (.dK kvs) ∧ Q (.int kvs.length) H
def rIntA : List V → Hp → VK → Prop := fun xs H Q => (∃ i, xs = [.int i] ∧ Q (.int i) H) ∨ ∃ k, xs = [.bl k] ∧ Q (.int (if k then 1 else 0)) H
def rStrIA : List V → Hp → VK → Prop := fun xs H Q => ∃ i, xs = [.int i] ∧ i.natAbs.log2 < 1920 ∧ Q (.str (toString i)) H
def rAbsA : List V → Hp → VK → Prop := fun xs H Q => ∃ i, xs = [.int i] ∧ Q (.int (if i < 0 then -i else i)) H
def rMax2A : List V → Hp → VK → Prop := fun xs H Q => ∃ i j, xs = [.int i, .int j] ∧ Q (.int (if j > i then j else i)) H
def rMin2A : List V → Hp → VK → Prop := fun xs H Q => ∃ i j, xs = [.int i, .int j] ∧ Q (.int (if j < i then j else i)) H
def rListA (K : PySem.W.Frag) : List V → Hp → VK → Prop := fun xs H Q => ∃ p ys, xs = [.ref p] ∧ (SqL K H p ys ∨ SqT K H p ys) ∧ ∀ l, H l = none → Q (.ref l) (upd H l (.lst ys))
def rTupleA (K : PySem.W.Frag) : List V → Hp → VK → Prop := fun xs H Q => ∃ p ys, xs = [.ref p] ∧ ((SqL K H p ys ∧ ∀ l, H l = none → Q (.ref l) (upd H l (.tup ys))) ∨ (SqT K H p ys ∧ Q (.ref p) H))
def rDictA : List V → Hp → VK → Prop := fun xs H Q => ∃ (a : Addr) (kvs : List (Key × V)), xs = [.ref a] ∧ Rd H a (.dK kvs) ∧ ∀ p, H p = none → Q (.ref p) (upd H p (.dK kvs))
def rStr2 (g : Str → Str → Bool) : R2 := fun x y H Q => ∃ i j, x = .str i ∧ y = .str j ∧ Q (.bl (g i j)) H
def rAddSA : R2 := fun x y H Q => ∃ i j, x = .str i ∧ y = .str j ∧ i.length + j.length ≤ sizeLine ∧ Q (.str (i ++ j)) H
def rInSA : R2 := fun x y H Q => ∃ (c : Nat) (z : Str), x = .str ⟨#[c]⟩ ∧ y = .str z ∧ Q (.bl (decide (c ∈ z.cps.toList))) H
def rNinSA : R2 := fun x y H Q => ∃ (c : Nat) (z : Str), x = .str ⟨#[c]⟩ ∧ y = .str z ∧ Q (.bl (!decide (c ∈ z.cps.toList))) H
def rIsNA : R2 := fun x y H Q => y = .non ∧ Q (.bl (decide (x = .non))) H
def rNotNA : R2 := fun x y H Q => y = .non ∧ Q (.bl (!decide (x = .non))) H
section
variable {X : Cx}
theorem call_lenA : CallR X (.builtin "len") (rLenA X.K) := call_len
theorem call_lenDA : CallR X (.builtin "len") rLenDA := by
  intro pins s σ H xs us Q I r h
  obtain ⟨a, kvs, rfl, ha, q⟩ := h
  obtain ⟨u, rfl, ru⟩ := vals1 r
  cases ru
  exact d_len I ha fun t s' I' => ⟨.int kvs.length, H, I', ⟨t, rfl⟩, q⟩
theorem call_intA : CallR X (.type "int") rIntA := call_int1
theorem call_strIA : CallR X (.type "str") rStrIA := call_str_int
theorem call_absA : CallR X (.builtin "abs") rAbsA := call_abs
theorem call_max2A (hc : X.calm = true) : CallR X (.builtin "max") rMax2A := call_max2 hc
theorem call_min2A (hc : X.calm = true) : CallR X (.builtin "min") rMin2A := call_min2 hc
theorem call_listA : CallR X (.type "list") (rListA X.K) := call_list_of
theorem call_tupleA : CallR X (.type "tuple") (rTupleA X.K) := call_tuple_of
theorem call_dictA : CallR X (.type "dict") rDictA := call_dictD
theorem op_ltS : OpR X (compareOp .Lt) (rStr2 fun i j => decide (i.cps.toList < j.cps.toList)) := op_lt_str
theorem op_leS : OpR X (compareOp .LtE) (rStr2 fun i j => !decide (j.cps.toList < i.cps.toList)) := op_le_str
theorem op_gtS : OpR X (compareOp .Gt) (rStr2 fun i j => decide (j.cps.toList < i.cps.toList)) := op_gt_str
theorem op_geS : OpR X (compareOp .GtE) (rStr2 fun i j => !decide (i.cps.toList < j.cps.toList)) := op_ge_str
theorem op_addSA : OpR X (binaryOp .Add) rAddSA := op_add_str
theorem op_inSA : OpR X (compareOp .In) rInSA := op_in_sign
theorem op_ninSA : OpR X (compareOp .NotIn) rNinSA := op_notIn_sign
theorem op_isNA : OpR X (compareOp .Is) rIsNA := op_isN
theorem op_notNA : OpR X (compareOp .IsNot) rNotNA := op_notN
end
section
variable {σ : L2.St} {H : Hp} {Q : VK} {v x y : V} {ta : TE} {K : PySem.W.Frag}
theorem x_lenL {p : Addr} {xs : List V} (h : SqL K H p xs) (q : Q (.int xs.length) H) : rLenA K [V.ref p] H Q := ⟨_, _, rfl, .inl ⟨xs, h, rfl⟩, q⟩
theorem x_lenT {p : Addr} {xs : List V} (h : SqT K H p xs) (q : Q (.int xs.length) H) : rLenA K [V.ref p] H Q := ⟨_, _, rfl, .inr ⟨xs, h, rfl⟩, q⟩
theorem x_lenS {z : Str} (h : z.length ≤ sizeLine) (q : Q (.int z.length) H) : rLenA K [V.str z] H Q := ⟨_, _, rfl, ⟨h, rfl⟩, q⟩
theorem x_lenD {p : Addr} {kvs : List (Key × V)} (h : Rd H p (.dK kvs)) (q : Q (.int kvs.length) H) : rLenDA [V.ref p] H Q := ⟨p, kvs, rfl, h, q⟩
theorem x_intI {i : Int} (q : Q (.int i) H) : rIntA [V.int i] H Q := .inl ⟨i, rfl, q⟩
theorem x_strI {i : Int} (h : i.natAbs.log2 < 1920) (q : Q (.str (toString i)) H) : rStrIA [V.int i] H Q := ⟨i, rfl, h, q⟩
theorem x_abs {i : Int} (q : Q (.int (if i < 0 then -i else i)) H) : rAbsA [V.int i] H Q := ⟨i, rfl, q⟩
theorem x_max2 {i j : Int} (q : Q (.int (if j > i then j else i)) H) : rMax2A [V.int i, V.int j] H Q := ⟨i, j, rfl, q⟩
theorem x_min2 {i j : Int} (q : Q (.int (if j < i then j else i)) H) : rMin2A [V.int i, V.int j] H Q := ⟨i, j, rfl, q⟩
theorem x_str2 {g : Str → Str → Bool} {i j : Str} (q : Q (.bl (g i j)) H) : rStr2 g (.str i) (.str j) H Q := ⟨i, j, rfl, rfl, q⟩
theorem x_addS {i j : Str} (h : i.length + j.length ≤ sizeLine) (q : Q (.str (i ++ j)) H) : rAddSA (.str i) (.str j) H Q := ⟨i, j, rfl, rfl, h, q⟩
theorem x_inS {d : Nat} {z : Str} (q : Q (.bl (decide (d ∈ z.cps.toList))) H) : rInSA (.str ⟨#[d]⟩) (.str z) H Q := ⟨d, z, rfl, rfl, q⟩
theorem x_ninS {d : Nat} {z : Str} (q : Q (.bl (!decide (d ∈ z.cps.toList))) H) : rNinSA (.str ⟨#[d]⟩) (.str z) H Q := ⟨d, z, rfl, rfl, q⟩
theorem x_isN (q : Q (.bl (decide (x = .non))) H) : rIsNA x .non H Q := ⟨rfl, q⟩
theorem x_notN (q : Q (.bl (!decide (x = .non))) H) : rNotNA x .non H Q := ⟨rfl, q⟩
theorem x_listL {p : Addr} {xs : List V} (h : SqL K H p xs) (q : ∀ l, H l = none → Q (.ref l) (upd H l (.lst xs))) : rListA K [V.ref p] H Q := ⟨p, xs, rfl, .inl h, q⟩
theorem x_listT {p : Addr} {xs : List V} (h : SqT K H p xs) (q : ∀ l, H l = none → Q (.ref l) (upd H l (.lst xs))) : rListA K [V.ref p] H Q := ⟨p, xs, rfl, .inr h, q⟩
theorem x_tupL {p : Addr} {xs : List V} (h : SqL K H p xs) (q : ∀ l, H l = none → Q (.ref l) (upd H l (.tup xs))) : rTupleA K [V.ref p] H Q := ⟨p, xs, rfl, .inl ⟨h, q⟩⟩
theorem x_tupT {p : Addr} {xs : List V} (h : SqT K H p xs) (q : Q (.ref p) H) : rTupleA K [V.ref p] H Q := ⟨p, xs, rfl, .inr ⟨h, q⟩⟩
theorem x_dict {p : Addr} {kvs : List (Key × V)} (h : Rd H p (.dK kvs)) (q : ∀ l, H l = none → Q (.ref l) (upd H l (.dK kvs))) : rDictA [V.ref p] H Q := ⟨p, kvs, rfl, h, q⟩
def rFldA (K : PySem.W.Frag) (f : Str) (x : V) (H : Hp) (Q : VK) : Prop := ∃ a C dx fs v, x = .ref a ∧ H a = some (.ins C dx fs) ∧ Cls K C ∧ NoAttr K C f ∧ fs.lookup f = some v ∧ Q v H
theorem x_Fld {f : Str} (q : ta σ H fun x H1 => rFldA K f x H1 Q) : tFld K ta f σ H Q := q
theorem x_fld {a C dx : Addr} {fs : List (Str × V)} {f : Str} (hc : Cls K C) (hn : NoAttr K C f) (h : H a = some (.ins C dx fs)) (hl : fs.lookup f = some v) (q : Q v H) : rFldA K f (.ref a) H Q := ⟨a, C, dx, fs, v, rfl, h, hc, hn, hl, q⟩
end
end Ox
namespace Ox
open PySem PySem.Spec PyProof.Rows L2
theorem divok2 {i j : Int} (h : 0 < j) (h2 : j < 2 ^ 200) : CDivW i j := wide_div (b := 200) h (by omega) (by decide) (by decide)
end Ox
namespace Ox
open PySem PySem.Spec PyProof.Rows L2
section
variable {H : Hp} {Q : VK} {v : V} {K : PySem.W.Frag}
theorem x_ixl {p : Addr} {xs : List V} {k : Int} (j : Nat) (h : SqL K H p xs) (hk : k = (j : Int)) (ha : xs[j]? = some v) (q : Q v H) : rIxL K (.ref p) (.int k) H Q := x_ixL h (at_of hk ha) q
theorem x_ixt {p : Addr} {xs : List V} {k : Int} (j : Nat) (h : SqT K H p xs) (hk : k = (j : Int)) (ha : xs[j]? = some v) (q : Q v H) : rIxT K (.ref p) (.int k) H Q := x_ixT h (at_of hk ha) q
theorem x_ixs {z : Str} {k : Int} {d : Nat} (j : Nat) (h : z.length ≤ sizeLine) (hk : k = (j : Int)) (ha : z.cps.toList[j]? = some d) (q : Q (.str ⟨#[d]⟩) H) : rIxS (.str z) (.int k) H Q :=
  x_ixS h (by subst hk; exact atI_nat ha) q
end
end Ox
namespace Ox
open PySem PySem.Spec PyProof.Rows L2
theorem same_new {H : Hp} {p : Addr} {o : HO} (h : H p = none) : L2.Same H (upd H p o) := fun b u e => by rw [upd_ne (ne_of_none e h)]; exact e
/-- what H does not hold may change -/
theorem same_upd {H H' : Hp} {p : Addr} {o : HO} (s : L2.Same H H') (h : H p = none) : L2.Same H (upd H' p o) := fun b u e => by rw [upd_ne (ne_of_none e h)]; exact s b u e
theorem same_but {p : Addr} {H H1 H2 : Hp} (s : L2.Same H H1) (h : H p = none) (b : But p H1 H2) : L2.Same H H2 := fun q u e => b q u (s q u e) (ne_of_none e h)
theorem same_t {K : PySem.W.Frag} {H H' : Hp} {a : Addr} {xs : List V} (e : L2.Same H H') (h : SqT K H a xs) : SqT K H' a xs := by
  rcases h with (h | ⟨o, h⟩) | h
  · exact .inl (.inl (e _ _ h))
  · exact .inl (.inr ⟨o, e _ _ h⟩)
  · exact .inr h
theorem same_rd {H H' : Hp} {a : Addr} {u : HO} (e : L2.Same H H') (h : Rd H a u) : Rd H' a u := by
  rcases h with h | ⟨o, h⟩
  · exact .inl (e _ _ h)
  · exact .inr ⟨o, e _ _ h⟩
theorem but_rd {p : Addr} {H H' : Hp} {a : Addr} {u : HO} (e : But p H H') (n : a ≠ p) (h : Rd H a u) : Rd H' a u := by
  rcases h with h | ⟨o, h⟩
  · exact .inl (e _ _ h n)
  · exact .inr ⟨o, e _ _ h n⟩
theorem sz_le {n : Nat} (h : n ≤ 10000) : n ≤ sizeLine := Nat.le_trans h (by decide)
theorem sz_lt {n : Nat} (h : n < 10000) : n < sizeLine := Nat.lt_of_lt_of_le h (by decide)
end Ox
namespace Ox
open PySem PySem.Spec PyProof.Rows L2
theorem inV_strs (z : Str) (ws : List Str) : inV (.str z) (ws.map V.str) = decide (z ∈ ws) := by
  unfold inV
  induction ws with
  | nil => simp
  | cons a r ih =>
    rw [List.map_cons, List.any_cons, ih]
    show (a == z || decide (z ∈ r)) = decide (z ∈ a :: r)
    by_cases e : a = z
    · subst e
      simp
    · have e2 : (a == z) = false := by simpa using e
      have e3 : ¬ z = a := fun q => e q.symm
      rw [e2]
      simp [List.mem_cons, e3]
theorem flat_strs (ws : List Str) : (ws.map V.str).all flatV = true := by
  rw [List.all_map]
  exact List.all_eq_true.mpr fun _ _ => rfl
theorem inV_ints (z : Int) (ws : List Int) : inV (.int z) (ws.map V.int) = decide (z ∈ ws) := by
  unfold inV
  induction ws with
  | nil => simp
  | cons a r ih =>
    rw [List.map_cons, List.any_cons, ih]
    show (a == z || decide (z ∈ r)) = decide (z ∈ a :: r)
    by_cases e : a = z
    · subst e
      simp
    · have e2 : (a == z) = false := by simpa using e
      have e3 : ¬ z = a := fun q => e q.symm
      rw [e2]
      simp [List.mem_cons, e3]
theorem flat_ints (ws : List Int) : (ws.map V.int).all flatV = true := by
  rw [List.all_map]
  exact List.all_eq_true.mpr fun _ _ => rfl
section
variable {H : Hp} {Q : VK} {K : PySem.W.Frag} {p : Addr}
theorem x_inL {ws : List Str} {z : Str} (h : SqL K H p (ws.map V.str)) (q : Q (.bl (decide (z ∈ ws))) H) : rIn K false (.str z) (.ref p) H Q :=
  ⟨p, _, rfl, .inl h, rfl, flat_strs ws, by rw [inV_strs]; exact q⟩
theorem x_ninL {ws : List Str} {z : Str} (h : SqL K H p (ws.map V.str)) (q : Q (.bl (!decide (z ∈ ws))) H) : rIn K true (.str z) (.ref p) H Q :=
  ⟨p, _, rfl, .inl h, rfl, flat_strs ws, by rw [inV_strs]; exact q⟩
theorem x_inTs {ws : List Str} {z : Str} (h : SqT K H p (ws.map V.str)) (q : Q (.bl (decide (z ∈ ws))) H) : rIn K false (.str z) (.ref p) H Q :=
  ⟨p, _, rfl, .inr h, rfl, flat_strs ws, by rw [inV_strs]; exact q⟩
theorem x_inTi {ws : List Int} {z : Int} (h : SqT K H p (ws.map V.int)) (q : Q (.bl (decide (z ∈ ws))) H) : rIn K false (.int z) (.ref p) H Q :=
  ⟨p, _, rfl, .inr h, rfl, flat_ints ws, by rw [inV_ints]; exact q⟩
theorem x_ninTi {ws : List Int} {z : Int} (h : SqT K H p (ws.map V.int)) (q : Q (.bl (!decide (z ∈ ws))) H) : rIn K true (.int z) (.ref p) H Q :=
  ⟨p, _, rfl, .inr h, rfl, flat_ints ws, by rw [inV_ints]; exact q⟩
end
end Ox
namespace Ox
open PySem PySem.Spec PyProof.Rows L2
/-! ### comprehensions -/
section
variable {σ : L2.St} {H : Hp} {Q : VK} {te tk tv : TE} {n : L2.St → Hp → Prop} {r : VK} {b c : L2.St → Hp → Prop} {t : TS} {g : TG} {tt : TT} {K : PySem.W.Frag} {al : TA} {p D : Addr} {vs : List Nat} {wi : TI} {Qd : Hp → Prop}
def LcP (J : It) (g : TG) (tt : TT) (te : TE) (vs : List Nat) (σ : L2.St) (D : Addr) (Qd : Hp → Prop) (H1 : Hp) : Prop := ∃ W : Nat → Nat → Hp → Prop, (∃ m, W 0 m (upd H1 D (.lst []))) ∧ ∀ i m H, W i m H →
  (J.stop i H ∧ Qd H) ∨ (J.go i H ∧ ∃ Nx : Hp → Prop, (∀ H', Nx H' → ∃ m', m' < m ∧ W (i + 1) m' H') ∧ ∀ x H', J.yld i H x H' → g x (wipe σ vs) H' fun σ2 H2 => wipe σ2 vs = wipe σ vs ∧ tt σ2 H2 fun b H3 =>
    if b = true then te σ2 H3 fun y H4 => ∃ acc, H4 D = some (.lst acc) ∧ acc.length < sizeLine ∧ Nx (upd H4 D (.lst (acc ++ [y]))) else Nx H3)
def DcP (J : It) (g : TG) (tt : TT) (tk tv : TE) (vs : List Nat) (σ : L2.St) (D : Addr) (Qd : Hp → Prop) (H1 : Hp) : Prop := ∃ W : Nat → Nat → Hp → Prop, (∃ m, W 0 m (upd H1 D (.dK []))) ∧ ∀ i m H, W i m H →
  (J.stop i H ∧ Qd H) ∨ (J.go i H ∧ ∃ Nx : Hp → Prop, (∀ H', Nx H' → ∃ m', m' < m ∧ W (i + 1) m' H') ∧ ∀ x H', J.yld i H x H' → g x (wipe σ vs) H' fun σ2 H2 => wipe σ2 vs = wipe σ vs ∧ tt σ2 H2 fun b H3 =>
    if b = true then tk σ2 H3 fun y H4 => tv σ2 H4 fun z H5 => ∃ kvs k, y = kV k ∧ H5 D = some (.dK kvs) ∧ kvs.length < sizeLine ∧ Nx (upd H5 D (.dK (putK kvs k z))) else Nx H3)
theorem x_lc (h : wi σ H fun J H1 => ∀ D, H1 D = none → LcP J g tt te vs σ D (fun H2 => Q (.ref D) H2) H1) : tLc wi g tt te vs σ H Q := h
theorem x_dc (h : wi σ H fun J H1 => ∀ D, H1 D = none → DcP J g tt tk tv vs σ D (fun H2 => Q (.ref D) H2) H1) : tDc wi g tt tk tv vs σ H Q := h
theorem x_yes1 {R : Bool → Hp → Prop} (h : R true H) : tYes σ H R := h
def RunK (R : It → Hp → Prop) (x : V) (H : Hp) : Prop := ∃ d o, x = .ref d ∧ ((∃ kvs, H d = some (.frz o (.dK kvs)) ∧ R (Itk d o kvs) H) ∨ ∃ kvs, H d = some (.frz o (.dT kvs)) ∧ R (Itkt d o kvs) H)
def RunV (R : It → Hp → Prop) (x : V) (H : Hp) : Prop := ∃ d o kvs, x = .ref d ∧ H d = some (.frz o (.dK kvs)) ∧ R (Itd d o kvs) H
def RunI (R : It → Hp → Prop) (x : V) (H : Hp) : Prop := ∃ d o kvs, x = .ref d ∧ H d = some (.frz o (.dK kvs)) ∧ R (Iti d o kvs) H
def RunL (K : PySem.W.Frag) (R : It → Hp → Prop) (x : V) (H : Hp) : Prop := ∃ a, x = .ref a ∧ (∃ xs, SqL K H a xs) ∧ R (Itl K a) H
def RunT (K : PySem.W.Frag) (R : It → Hp → Prop) (x : V) (H : Hp) : Prop := ∃ a, x = .ref a ∧ (∃ xs, SqT K H a xs) ∧ R (Itt K a) H
def RunS (R : It → Hp → Prop) (x : V) (H : Hp) : Prop := ∃ z, x = .str z ∧ R (Its z) H
def RunR (R : It → Hp → Prop) (vs : List V) (H : Hp) : Prop := ∃ j : Int, vs = [.int j] ∧ -(2 ^ 62) ≤ j ∧ j < 2 ^ 62 ∧ R (Itr 0 j.toNat) H
theorem x_iK {R : It → Hp → Prop} (h : te σ H fun x H1 => RunK R x H1) : iKeys te σ H R := h
theorem x_iV {R : It → Hp → Prop} (h : te σ H fun x H1 => RunV R x H1) : iVals te σ H R := h
theorem x_iI {R : It → Hp → Prop} (h : te σ H fun x H1 => RunI R x H1) : iItems te σ H R := h
theorem x_iL {R : It → Hp → Prop} (h : te σ H fun x H1 => RunL K R x H1) : iList K te σ H R := h
theorem x_iT {R : It → Hp → Prop} (h : te σ H fun x H1 => RunT K R x H1) : iTup K te σ H R := h
theorem x_iS {R : It → Hp → Prop} (h : te σ H fun x H1 => RunS R x H1) : iStr te σ H R := h
theorem x_iR {R : It → Hp → Prop} (h : al σ H fun x H1 => RunR R x H1) : iRng1 al σ H R := h
theorem runK {R : It → Hp → Prop} {o : Obj} {kvs : List (Key × V)} (h : H p = some (.frz o (.dK kvs))) (q : R (Itk p o kvs) H) : RunK R (.ref p) H := ⟨p, o, rfl, .inl ⟨kvs, h, q⟩⟩
theorem runV {R : It → Hp → Prop} {o : Obj} {kvs : List (Key × V)} (h : H p = some (.frz o (.dK kvs))) (q : R (Itd p o kvs) H) : RunV R (.ref p) H := ⟨p, o, kvs, rfl, h, q⟩
theorem runI {R : It → Hp → Prop} {o : Obj} {kvs : List (Key × V)} (h : H p = some (.frz o (.dK kvs))) (q : R (Iti p o kvs) H) : RunI R (.ref p) H := ⟨p, o, kvs, rfl, h, q⟩
theorem runL {R : It → Hp → Prop} {xs : List V} (h : SqL K H p xs) (q : R (Itl K p) H) : RunL K R (.ref p) H := ⟨p, rfl, ⟨xs, h⟩, q⟩
theorem runT {R : It → Hp → Prop} {xs : List V} (h : SqT K H p xs) (q : R (Itt K p) H) : RunT K R (.ref p) H := ⟨p, rfl, ⟨xs, h⟩, q⟩
theorem runR {R : It → Hp → Prop} {j : Int} (h : -(2 ^ 62) ≤ j ∧ j < 2 ^ 62) (q : R (Itr 0 j.toNat) H) : RunR R [.int j] H := ⟨j, rfl, h.1, h.2, q⟩
theorem lc_by {J : It} {m : Nat} {G : Hp → Prop} {Y : Nat → Hp → V → Hp → Prop} (w : L2.Walk J m G Y) (Pv : Nat → Hp → Prop) (h0 : Pv 0 (upd H D (.lst []))) (hG : ∀ i H, i ≤ m → Pv i H → G H)
    (hs : ∀ i x H H', i < m → Pv i H → Y i H x H' → g x (wipe σ vs) H' fun σ2 H2 => wipe σ2 vs = wipe σ vs ∧ tt σ2 H2 fun b H3 =>
      if b = true then te σ2 H3 fun y H4 => ∃ acc, H4 D = some (.lst acc) ∧ acc.length < sizeLine ∧ Pv (i + 1) (upd H4 D (.lst (acc ++ [y]))) else Pv (i + 1) H3) (hd : ∀ H, Pv m H → Qd H) : LcP J g tt te vs σ D Qd H := L2.lc_it w Pv h0 hG hs hd
theorem dc_by {J : It} {m : Nat} {G : Hp → Prop} {Y : Nat → Hp → V → Hp → Prop} (w : L2.Walk J m G Y) (Pv : Nat → Hp → Prop) (h0 : Pv 0 (upd H D (.dK []))) (hG : ∀ i H, i ≤ m → Pv i H → G H)
    (hs : ∀ i x H H', i < m → Pv i H → Y i H x H' → g x (wipe σ vs) H' fun σ2 H2 => wipe σ2 vs = wipe σ vs ∧ tt σ2 H2 fun b H3 =>
      if b = true then tk σ2 H3 fun y H4 => tv σ2 H4 fun z H5 => ∃ kvs k, y = kV k ∧ H5 D = some (.dK kvs) ∧ kvs.length < sizeLine ∧ Pv (i + 1) (upd H5 D (.dK (putK kvs k z))) else Pv (i + 1) H3) (hd : ∀ H, Pv m H → Qd H) : DcP J g tt tk tv vs σ D Qd H := by
  refine ⟨fun i k H => k = m - i ∧ i ≤ m ∧ Pv i H, ⟨m, by simp, Nat.zero_le _, h0⟩, ?_⟩
  rintro i k H ⟨rfl, hi, hp⟩
  have q := hG i H hi hp
  by_cases hlt : i < m
  · exact .inr ⟨w.goes i H hlt q, Pv (i + 1), fun H' p' => ⟨m - (i + 1), by omega, rfl, hlt, p'⟩, fun x H' y => hs i x H H' hlt hp (w.yields i H x H' hlt q y)⟩
  · have e : i = m := by omega
    subst e
    exact .inl ⟨w.stops H q, hd H hp⟩
theorem lcK {o : Obj} {kvs : List (Key × V)} (Pv : Nat → Hp → Prop) (h0 : Pv 0 (upd H D (.lst []))) (hG : ∀ i H, i ≤ kvs.length → Pv i H → H p = some (.frz o (.dK kvs)))
    (hs : ∀ i k v H, kvs[i]? = some (k, v) → Pv i H → g (kV k) (wipe σ vs) H fun σ2 H2 => wipe σ2 vs = wipe σ vs ∧ tt σ2 H2 fun b H3 =>
      if b = true then te σ2 H3 fun y H4 => ∃ acc, H4 D = some (.lst acc) ∧ acc.length < sizeLine ∧ Pv (i + 1) (upd H4 D (.lst (acc ++ [y]))) else Pv (i + 1) H3) (hd : ∀ H, Pv kvs.length H → Qd H) : LcP (Itk p o kvs) g tt te vs σ D Qd H :=
  lc_by walk_keys Pv h0 hG (fun i x H H' _ hp y => by obtain ⟨rfl, k, v, e, rfl⟩ := y; exact hs i k v _ e hp) hd
theorem lcL {xs : List V} (Pv : Nat → Hp → Prop) (h0 : Pv 0 (upd H D (.lst []))) (hG : ∀ i H, i ≤ xs.length → Pv i H → SqL K H p xs)
    (hs : ∀ i x H, xs[i]? = some x → Pv i H → g x (wipe σ vs) H fun σ2 H2 => wipe σ2 vs = wipe σ vs ∧ tt σ2 H2 fun b H3 =>
      if b = true then te σ2 H3 fun y H4 => ∃ acc, H4 D = some (.lst acc) ∧ acc.length < sizeLine ∧ Pv (i + 1) (upd H4 D (.lst (acc ++ [y]))) else Pv (i + 1) H3) (hd : ∀ H, Pv xs.length H → Qd H) : LcP (Itl K p) g tt te vs σ D Qd H :=
  lc_by walk_list Pv h0 hG (fun i x H H' _ hp y => by obtain ⟨rfl, e⟩ := y; exact hs i x _ e hp) hd
theorem lcT {xs : List V} (Pv : Nat → Hp → Prop) (h0 : Pv 0 (upd H D (.lst []))) (hG : ∀ i H, i ≤ xs.length → Pv i H → SqT K H p xs)
    (hs : ∀ i x H, xs[i]? = some x → Pv i H → g x (wipe σ vs) H fun σ2 H2 => wipe σ2 vs = wipe σ vs ∧ tt σ2 H2 fun b H3 =>
      if b = true then te σ2 H3 fun y H4 => ∃ acc, H4 D = some (.lst acc) ∧ acc.length < sizeLine ∧ Pv (i + 1) (upd H4 D (.lst (acc ++ [y]))) else Pv (i + 1) H3) (hd : ∀ H, Pv xs.length H → Qd H) : LcP (Itt K p) g tt te vs σ D Qd H :=
  lc_by walk_tup Pv h0 hG (fun i x H H' _ hp y => by obtain ⟨rfl, e⟩ := y; exact hs i x _ e hp) hd
theorem dcK {o : Obj} {kvs : List (Key × V)} (Pv : Nat → Hp → Prop) (h0 : Pv 0 (upd H D (.dK []))) (hG : ∀ i H, i ≤ kvs.length → Pv i H → H p = some (.frz o (.dK kvs)))
    (hs : ∀ i k v H, kvs[i]? = some (k, v) → Pv i H → g (kV k) (wipe σ vs) H fun σ2 H2 => wipe σ2 vs = wipe σ vs ∧ tt σ2 H2 fun b H3 =>
      if b = true then tk σ2 H3 fun y H4 => tv σ2 H4 fun z H5 => ∃ kvs k, y = kV k ∧ H5 D = some (.dK kvs) ∧ kvs.length < sizeLine ∧ Pv (i + 1) (upd H5 D (.dK (putK kvs k z))) else Pv (i + 1) H3) (hd : ∀ H, Pv kvs.length H → Qd H) : DcP (Itk p o kvs) g tt tk tv vs σ D Qd H :=
  dc_by walk_keys Pv h0 hG (fun i x H H' _ hp y => by obtain ⟨rfl, k, v, e, rfl⟩ := y; exact hs i k v _ e hp) hd
theorem dcL {xs : List V} (Pv : Nat → Hp → Prop) (h0 : Pv 0 (upd H D (.dK []))) (hG : ∀ i H, i ≤ xs.length → Pv i H → SqL K H p xs)
    (hs : ∀ i x H, xs[i]? = some x → Pv i H → g x (wipe σ vs) H fun σ2 H2 => wipe σ2 vs = wipe σ vs ∧ tt σ2 H2 fun b H3 =>
      if b = true then tk σ2 H3 fun y H4 => tv σ2 H4 fun z H5 => ∃ kvs k, y = kV k ∧ H5 D = some (.dK kvs) ∧ kvs.length < sizeLine ∧ Pv (i + 1) (upd H5 D (.dK (putK kvs k z))) else Pv (i + 1) H3) (hd : ∀ H, Pv xs.length H → Qd H) : DcP (Itl K p) g tt tk tv vs σ D Qd H :=
  dc_by walk_list Pv h0 hG (fun i x H H' _ hp y => by obtain ⟨rfl, e⟩ := y; exact hs i x _ e hp) hd
theorem dcI {o : Obj} {kvs : List (Key × V)} (Pv : Nat → Hp → Prop) (h0 : Pv 0 (upd H D (.dK []))) (hG : ∀ i H, i ≤ kvs.length → Pv i H → H p = some (.frz o (.dK kvs)))
    (hs : ∀ i k v H T, kvs[i]? = some (k, v) → Pv i H → H T = none → g (.ref T) (wipe σ vs) (upd H T (.tup [kV k, v])) fun σ2 H2 => wipe σ2 vs = wipe σ vs ∧ tt σ2 H2 fun b H3 =>
      if b = true then tk σ2 H3 fun y H4 => tv σ2 H4 fun z H5 => ∃ kvs k, y = kV k ∧ H5 D = some (.dK kvs) ∧ kvs.length < sizeLine ∧ Pv (i + 1) (upd H5 D (.dK (putK kvs k z))) else Pv (i + 1) H3) (hd : ∀ H, Pv kvs.length H → Qd H) : DcP (Iti p o kvs) g tt tk tv vs σ D Qd H :=
  dc_by walk_items Pv h0 hG (fun i x H H' _ hp y => by
    obtain ⟨T, k, v, rfl, hT, rfl, e1, e2⟩ := y
    dsimp only at e1 e2
    cases e : kvs[i]? with
    | none => rw [e] at e1; cases e1
    | some kv =>
      rw [e] at e1 e2
      have e3 : kV kv.1 = k := Option.some.inj e1
      have e4 : kv.2 = v := Option.some.inj e2
      subst e3 e4
      exact hs i kv.1 kv.2 _ T e hp hT) hd
/-- a dict is held while it is walked -/
theorem x_lock {d : Addr} {u : HO} (h : H d = some u) (hm : Mut (some u)) (q : ∀ od, t ⟨fun σ' H' => H' d = some (.frz od u) ∧ n σ' (upd H' d u), fun v H' => H' d = some (.frz od u) ∧ r v (upd H' d u), fun σ' H' => H' d = some (.frz od u) ∧ b σ' (upd H' d u), fun σ' H' => H' d = some (.frz od u) ∧ c σ' (upd H' d u)⟩ σ (upd H d (.frz od u))) :
    tLock t ⟨n, r, b, c⟩ σ H := ⟨d, u, h, hm, q⟩
theorem x_lockE {d : Addr} {u : HO} (h : H d = some u) (hm : Mut (some u)) (q : ∀ od, te σ (upd H d (.frz od u)) fun v H' => H' d = some (.frz od u) ∧ Q v (upd H' d u)) : tLockE te σ H Q := ⟨d, u, h, hm, q⟩
/-! ### dicts -/
def rGetA (x y : V) (H : Hp) (Q : VK) : Prop := ∃ a v, x = .ref a ∧ DGet H a y (some v) ∧ Q v H
def rDinA (y x : V) (H : Hp) (Q : VK) : Prop := ∃ a o, x = .ref a ∧ DGet H a y o ∧ Q (.bl o.isSome) H
def rDninA (y x : V) (H : Hp) (Q : VK) : Prop := ∃ a o, x = .ref a ∧ DGet H a y o ∧ Q (.bl (!o.isSome)) H
def rDputA (x y v : V) (H : Hp) (N : Hp → Prop) : Prop := ∃ a H4, x = .ref a ∧ DPut H a y v H4 ∧ N H4
variable {td ty : TE} {x y v : V}
theorem x_dget (h : td σ H fun x H1 => ty σ H1 fun y H2 => rGetA x y H2 Q) : tDGet td ty σ H Q := h
theorem x_din (h : ty σ H fun y H1 => td σ H1 fun x H2 => rDinA y x H2 Q) : tDIn ty td σ H Q := h
theorem x_dnin (h : ty σ H fun y H1 => td σ H1 fun x H2 => rDninA y x H2 Q) : tDNotIn ty td σ H Q := h
theorem x_dput (h : tv σ H fun v H1 => td σ H1 fun x H2 => ty σ H2 fun y H3 => rDputA x y v H3 fun H4 => n σ H4) : sDPut td ty tv ⟨n, r, b, c⟩ σ H := h
theorem x_getS {kvs : List (Key × V)} {z : Str} (h : Rd H p (.dK kvs)) (e : valV kvs (Sum.inr z : Key) = some v) (q : Q v H) : rGetA (.ref p) (.str z) H Q := ⟨p, v, rfl, .inl ⟨kvs, Sum.inr z, h, rfl, e.symm⟩, q⟩
theorem x_dinS {kvs : List (Key × V)} {z : Str} (h : Rd H p (.dK kvs)) (q : Q (.bl (valV kvs (Sum.inr z : Key)).isSome) H) : rDinA (.str z) (.ref p) H Q := ⟨p, _, rfl, .inl ⟨kvs, Sum.inr z, h, rfl, rfl⟩, q⟩
theorem x_dninS {kvs : List (Key × V)} {z : Str} (h : Rd H p (.dK kvs)) (q : Q (.bl (!(valV kvs (Sum.inr z : Key)).isSome)) H) : rDninA (.str z) (.ref p) H Q := ⟨p, _, rfl, .inl ⟨kvs, Sum.inr z, h, rfl, rfl⟩, q⟩
theorem x_putS {kvs : List (Key × V)} {z : Str} {N : Hp → Prop} (h : H p = some (.dK kvs)) (hl : kvs.length < sizeLine) (q : N (upd H p (.dK (putK kvs (Sum.inr z : Key) v)))) : rDputA (.ref p) (.str z) v H N :=
  ⟨p, _, rfl, .inl ⟨kvs, Sum.inr z, h, rfl, hl, rfl⟩, q⟩
theorem x_newK (h : ∀ p, H p = none → Q (.ref p) (upd H p (.dK []))) : tDNewK σ H Q := h
end
end Ox
namespace Ox
open PySem PySem.Spec PyProof.Rows L2
theorem valV_at {kvs : List (Key × V)} (hn : (kvs.map (·.1)).Nodup) {i : Nat} {k : Key} {v : V} (h : kvs[i]? = some (k, v)) : valV kvs k = some v := by
  induction kvs generalizing i with
  | nil => cases h
  | cons p r ih =>
    have hn2 : (p.1 :: r.map (·.1)).Nodup := hn
    obtain ⟨h1, h2⟩ := List.nodup_cons.mp hn2
    unfold valV
    rw [List.find?_cons]
    cases i with
    | zero =>
      have e : p = (k, v) := Option.some.inj h
      subst e
      simp
    | succ i =>
      have h3 : r[i]? = some (k, v) := h
      have ne : ¬ p.1 = k := fun e => h1 (by rw [e]; exact List.mem_map.mpr ⟨(k, v), List.mem_of_getElem? h3, rfl⟩)
      rw [decide_eq_false ne]
      exact ih h2 h3
theorem valV_mem {kvs : List (Key × V)} {k : Key} {v : V} (h : valV kvs k = some v) : (k, v) ∈ kvs := by
  unfold valV at h
  cases e : kvs.find? (fun kv => decide (kv.1 = k)) with
  | none => rw [e] at h; cases h
  | some p =>
    rw [e] at h
    have h1 : p.2 = v := Option.some.inj h
    have h2 := List.find?_some e
    have h3 : p.1 = k := of_decide_eq_true h2
    rw [← h1, ← h3]
    exact List.mem_of_find?_eq_some e
/-- a dict with text keys -/
abbrev strK {α : Type} (f : α → V) (l : List (Str × α)) : List (Key × V) := l.map fun p => (Sum.inr p.1, f p.2)
theorem strK_at {α : Type} {f : α → V} {l : List (Str × α)} {i : Nat} {k : Key} {v : V} (h : (strK f l)[i]? = some (k, v)) : ∃ z x, k = Sum.inr z ∧ v = f x ∧ l[i]? = some (z, x) := by
  rw [List.getElem?_map] at h
  cases e : l[i]? with
  | none => rw [e] at h; cases h
  | some p =>
    rw [e] at h
    have e1 : ((Sum.inr p.1 : Key), f p.2) = (k, v) := Option.some.inj h
    injection e1 with e2 e3
    exact ⟨p.1, p.2, e2.symm, e3.symm, rfl⟩
theorem strK_nd {α : Type} {f : α → V} {l : List (Str × α)} (h : (l.map (·.1)).Nodup) : ((strK f l).map (·.1)).Nodup := by
  rw [List.map_map]
  have e : ((fun x : Key × V => x.1) ∘ fun p : Str × α => ((Sum.inr p.1 : Key), f p.2)) = (fun p : Str × α => (Sum.inr p.1 : Key)) := rfl
  rw [e]
  have e2 : l.map (fun p : Str × α => (Sum.inr p.1 : Key)) = (l.map (·.1)).map Sum.inr := by rw [List.map_map]; rfl
  rw [e2]
  exact List.pairwise_map.mpr (List.Pairwise.imp (fun {a b} hab e => hab (Sum.inr.inj e)) h)
theorem strK_val {α : Type} {f : α → V} {l : List (Str × α)} (h : (l.map (·.1)).Nodup) {i : Nat} {z : Str} {x : α} (e : l[i]? = some (z, x)) : valV (strK f l) (Sum.inr z : Key) = some (f x) :=
  valV_at (strK_nd h) (i := i) (by rw [List.getElem?_map, e]; rfl)
theorem strK_get {α : Type} {f : α → V} {l : List (Str × α)} {z : Str} {v : V} (h : valV (strK f l) (Sum.inr z : Key) = some v) : ∃ x, v = f x ∧ (z, x) ∈ l := by
  obtain ⟨p, hp, e⟩ := List.mem_map.mp (valV_mem h)
  injection e with e1 e2
  injection e1 with e3
  exact ⟨p.2, e2.symm, by rw [← e3]; exact hp⟩
theorem take_succ_get {α : Type} {l : List α} {i : Nat} {x : α} (h : l[i]? = some x) : l.take (i + 1) = l.take i ++ [x] := by
  rw [List.take_succ, h]
  rfl
end Ox
namespace Ox
open PySem PySem.Spec PyProof.Rows L2
/-- sorted(d), d a dict with text keys -/
def rSortDA : List V → Hp → VK → Prop := fun xs H Q => ∃ (a : Addr) (kvs : List (Key × V)) (ks : List Str), xs = [.ref a] ∧ Rd H a (.dK kvs) ∧ kvs.map (·.1) = ks.map Sum.inr ∧ ks.length < 64 ∧
  ∀ ys p, ys.Perm ks → sortedS ys = true → H p = none → Q (.ref p) (upd H p (.lst (ys.map V.str)))
theorem call_sortedDA {X : Cx} (hc : X.calm = true) : CallR X (.builtin "sorted") rSortDA := call_sortedD hc
theorem lt_one (a b : Nat) : (([a] : List Nat) < [b]) ↔ a < b := by
  rw [List.cons_lt_cons_iff]
  simp
section
variable {H : Hp} {Q : VK} {d : Nat} {s : Str}
theorem x_leL (c : Nat) (e : s = ⟨#[c]⟩) (q : Q (.bl (decide (c ≤ d))) H) : rStr2 (fun i j => !decide (j.cps.toList < i.cps.toList)) (.str s) (.str ⟨#[d]⟩) H Q := by
  subst e
  refine ⟨_, _, rfl, rfl, ?_⟩
  have h : (!decide ((⟨#[d]⟩ : Str).cps.toList < (⟨#[c]⟩ : Str).cps.toList)) = decide (c ≤ d) := by
    show (!decide ([d] < [c])) = _
    rw [show decide (([d] : List Nat) < [c]) = decide (d < c) from decide_eq_decide.mpr (lt_one d c)]
    by_cases z : d < c
    · have : ¬ c ≤ d := by omega
      simp [z, this]
    · have : c ≤ d := by omega
      simp [z, this]
  dsimp only
  rw [h]
  exact q
theorem x_leR (c : Nat) (e : s = ⟨#[c]⟩) (q : Q (.bl (decide (d ≤ c))) H) : rStr2 (fun i j => !decide (j.cps.toList < i.cps.toList)) (.str ⟨#[d]⟩) (.str s) H Q := by
  subst e
  refine ⟨_, _, rfl, rfl, ?_⟩
  have h : (!decide ((⟨#[c]⟩ : Str).cps.toList < (⟨#[d]⟩ : Str).cps.toList)) = decide (d ≤ c) := by
    show (!decide ([c] < [d])) = _
    rw [show decide (([c] : List Nat) < [d]) = decide (c < d) from decide_eq_decide.mpr (lt_one c d)]
    by_cases z : c < d
    · have : ¬ d ≤ c := by omega
      simp [z, this]
    · have : d ≤ c := by omega
      simp [z, this]
  dsimp only
  rw [h]
  exact q
end
theorem chr_a : ("a" : Str) = ⟨#[97]⟩ := by decide +kernel
theorem chr_z : ("z" : Str) = ⟨#[122]⟩ := by decide +kernel
theorem chr_0 : ("0" : Str) = ⟨#[48]⟩ := by decide +kernel
theorem chr_9 : ("9" : Str) = ⟨#[57]⟩ := by decide +kernel
end Ox
namespace Ox
open PySem PySem.Spec PyProof.Rows L2
/-! ### dicts with text keys as association lists -/
theorem strK_look {α : Type} {f : α → V} (l : List (Str × α)) (z : Str) : valV (strK f l) (Sum.inr z : Key) = (l.lookup z).map f := by
  induction l with
  | nil => rfl
  | cons p r ih =>
    show valV ((Sum.inr p.1, f p.2) :: strK f r) (Sum.inr z : Key) = _
    unfold valV
    rw [List.find?_cons, List.lookup_cons]
    by_cases e : p.1 = z
    · subst e
      simp
    · have e1 : ¬ (Sum.inr p.1 : Key) = Sum.inr z := fun q => e (Sum.inr.inj q)
      have e2 : (z == p.1) = false := by simpa using fun q : z = p.1 => e q.symm
      rw [decide_eq_false e1, e2]
      exact ih
/-- a store -/
def putL {α : Type} (l : List (Str × α)) (z : Str) (x : α) : List (Str × α) := if z ∈ l.map (·.1) then l.map (fun p => if p.1 = z then (p.1, x) else p) else l ++ [(z, x)]
theorem putL_new {α : Type} {l : List (Str × α)} {z : Str} (x : α) (h : z ∉ l.map (·.1)) : putL l z x = l ++ [(z, x)] := by
  unfold putL
  rw [if_neg h]
theorem putL_keys {α : Type} {l : List (Str × α)} {z : Str} (x : α) (h : z ∈ l.map (·.1)) : (putL l z x).map (·.1) = l.map (·.1) := by
  unfold putL
  rw [if_pos h, List.map_map]
  refine List.map_congr_left fun p _ => ?_
  show (if p.1 = z then (p.1, x) else p).1 = p.1
  split <;> rfl
theorem putL_nd {α : Type} {l : List (Str × α)} {z : Str} (x : α) (h : (l.map (·.1)).Nodup) : ((putL l z x).map (·.1)).Nodup := by
  by_cases e : z ∈ l.map (·.1)
  · rw [putL_keys x e]
    exact h
  · rw [putL_new x e, List.map_append]
    exact List.nodup_append.mpr ⟨h, by simp, fun a ha b hb q => by
      rw [List.map_cons, List.map_nil, List.mem_singleton] at hb
      rw [q, hb] at ha
      exact e ha⟩
theorem putL_len {α : Type} (l : List (Str × α)) (z : Str) (x : α) : (putL l z x).length ≤ l.length + 1 := by
  unfold putL
  split <;> simp
theorem putL_mem {α : Type} {l : List (Str × α)} {z : Str} {x : α} {p : Str × α} (h : p ∈ putL l z x) : p = (z, x) ∨ (p ∈ l ∧ p.1 ≠ z) := by
  unfold putL at h
  by_cases e : z ∈ l.map (·.1)
  · rw [if_pos e] at h
    obtain ⟨q, hq, e2⟩ := List.mem_map.mp h
    by_cases eq : q.1 = z
    · rw [if_pos eq, eq] at e2
      exact .inl e2.symm
    · rw [if_neg eq] at e2
      rw [← e2]
      exact .inr ⟨hq, eq⟩
  · rw [if_neg e] at h
    rcases List.mem_append.mp h with h | h
    · exact .inr ⟨h, fun q => e (by rw [← q]; exact List.mem_map.mpr ⟨p, h, rfl⟩)⟩
    · exact .inl (List.mem_singleton.mp h)
theorem strK_put {α : Type} {f : α → V} (l : List (Str × α)) (z : Str) (x : α) : putK (strK f l) (Sum.inr z : Key) (f x) = strK f (putL l z x) := by
  have ha : ((strK f l).any fun kv => decide (kv.1 = (Sum.inr z : Key))) = decide (z ∈ l.map (·.1)) := by
    induction l with
    | nil => rfl
    | cons p r ih =>
      show ((decide ((Sum.inr p.1 : Key) = Sum.inr z)) || ((strK f r).any fun kv => decide (kv.1 = (Sum.inr z : Key)))) = decide (z ∈ p.1 :: r.map (·.1))
      rw [ih]
      by_cases e : p.1 = z
      · simp [e]
      · have e2 : ¬ z = p.1 := fun q => e q.symm
        simp [e, e2]
  unfold putK putL
  rw [ha]
  by_cases e : z ∈ l.map (·.1)
  · rw [if_pos (decide_eq_true e), if_pos e]
    show (List.map _ (List.map _ l)) = List.map _ (List.map _ l)
    rw [List.map_map, List.map_map]
    refine List.map_congr_left fun p _ => ?_
    show (if (Sum.inr p.1 : Key) = Sum.inr z then ((Sum.inr p.1 : Key), f x) else (Sum.inr p.1, f p.2)) = ((Sum.inr (if p.1 = z then (p.1, x) else p).1 : Key), f (if p.1 = z then (p.1, x) else p).2)
    by_cases h : p.1 = z
    · rw [if_pos h, if_pos (by rw [h])]
    · rw [if_neg h, if_neg (fun q => h (Sum.inr.inj q))]
  · rw [if_neg (by simp only [decide_eq_true_eq]; exact e), if_neg e]
    exact (List.map_append (l₁ := l) (l₂ := [(z, x)]) (f := fun p : Str × α => ((Sum.inr p.1 : Key), f p.2))).symm
theorem lookup_mem {α : Type} {l : List (Str × α)} {z : Str} {x : α} (h : l.lookup z = some x) : (z, x) ∈ l := by
  induction l with
  | nil => cases h
  | cons p r ih =>
    rw [List.lookup_cons] at h
    by_cases e : z = p.1
    · subst e
      rw [beq_self_eq_true] at h
      cases h
      exact List.mem_cons_self
    · have e2 : (z == p.1) = false := by simpa using e
      rw [e2] at h
      exact List.mem_cons_of_mem _ (ih h)
theorem lookup_of {α : Type} {l : List (Str × α)} (hn : (l.map (·.1)).Nodup) {z : Str} {x : α} (h : (z, x) ∈ l) : l.lookup z = some x := by
  induction l with
  | nil => cases h
  | cons p r ih =>
    obtain ⟨h1, h2⟩ := List.nodup_cons.mp (show (p.1 :: r.map (·.1)).Nodup from hn)
    rw [List.lookup_cons]
    rcases List.mem_cons.mp h with e | h
    · rw [← e]
      simp
    · have ne : ¬ z = p.1 := fun q => h1 (by rw [← q]; exact List.mem_map.mpr ⟨(z, x), h, rfl⟩)
      have e2 : (z == p.1) = false := by simpa using ne
      rw [e2]
      exact ih h2 h
theorem lookup_isSome {α : Type} {l : List (Str × α)} {z : Str} (h : z ∈ l.map (·.1)) : ∃ x, l.lookup z = some x := by
  induction l with
  | nil => cases h
  | cons p r ih =>
    rw [List.lookup_cons]
    by_cases e : z = p.1
    · subst e
      exact ⟨p.2, by simp⟩
    · have e2 : (z == p.1) = false := by simpa using e
      rw [e2]
      exact ih ((List.mem_cons.mp h).resolve_left e)
theorem lookup_none {α : Type} {l : List (Str × α)} {z : Str} (h : z ∉ l.map (·.1)) : l.lookup z = none := by
  cases e : l.lookup z with
  | none => rfl
  | some x => exact absurd (List.mem_map.mpr ⟨_, lookup_mem e, rfl⟩) h
theorem lookup_perm {α : Type} {l l' : List (Str × α)} (hp : l'.Perm l) (hn : (l.map (·.1)).Nodup) (z : Str) : l'.lookup z = l.lookup z := by
  have hn' : (l'.map (·.1)).Nodup := (List.Perm.nodup_iff (hp.map _)).mpr hn
  cases e : l.lookup z with
  | some x => exact lookup_of hn' (hp.mem_iff.mpr (lookup_mem e))
  | none =>
    cases e2 : l'.lookup z with
    | none => rfl
    | some x =>
      have := lookup_of hn (hp.mem_iff.mp (lookup_mem e2))
      rw [e] at this
      cases this
/-- the same table, its keys in another order -/
theorem table_perm {α : Type} {l : List (Str × α)} {ys : List Str} (hn : (l.map (·.1)).Nodup) (hp : ys.Perm (l.map (·.1))) (d : α) : (ys.map fun z => (z, (l.lookup z).getD d)).Perm l := by
  have h1 := hp.map fun z => (z, (l.lookup z).getD d)
  have h2 : (l.map (·.1)).map (fun z => (z, (l.lookup z).getD d)) = l := by
    rw [List.map_map]
    conv => rhs; rw [← List.map_id l]
    refine List.map_congr_left fun p hp => ?_
    show (p.1, (l.lookup p.1).getD d) = p
    rw [lookup_of hn (z := p.1) (x := p.2) hp]
    rfl
  rw [h2] at h1
  exact h1
section
variable {σ : L2.St} {H : Hp} {n : L2.St → Hp → Prop} {r : VK} {b c : L2.St → Hp → Prop} {ta tv : TE} {K : PySem.W.Frag}
def rSfA (K : PySem.W.Frag) (f : Str) (x y : V) (H : Hp) (N : Hp → Prop) : Prop := ∃ a C dx fs, x = .ref a ∧ H a = some (.ins C dx fs) ∧ Cls K C ∧ NoAttr K C f ∧ fs.length < 1000 ∧ N (upd H a (.ins C dx (putF f y fs)))
theorem x_sfld {f : Str} (h : tv σ H fun y H1 => ta σ H1 fun x H2 => rSfA K f x y H2 fun H3 => n σ H3) : sFld K ta tv f ⟨n, r, b, c⟩ σ H := h
theorem x_sf {a C dx : Addr} {fs : List (Str × V)} {f : Str} {y : V} {N : Hp → Prop} (hc : Cls K C) (hn : NoAttr K C f) (h : H a = some (.ins C dx fs)) (hl : fs.length < 1000) (q : N (upd H a (.ins C dx (putF f y fs)))) : rSfA K f (.ref a) y H N :=
  ⟨a, C, dx, fs, rfl, h, hc, hn, hl, q⟩
end
end Ox
namespace Ox
open PySem PySem.Spec PyProof.Rows L2
/-! ### rules with the written part told by a letter (for a comprehension's block) -/
section
variable {X : Cx} {K : PySem.W.Frag}
theorem ix_listK (e : X.K = K := by rfl) : IxR X (rIxL K) := e ▸ ix_list
theorem ix_tupK (e : X.K = K := by rfl) : IxR X (rIxT K) := e ▸ ix_tup
theorem call_lenAK (e : X.K = K := by rfl) : CallR X (.builtin "len") (rLenA K) := e ▸ call_lenA
theorem op_in_seqK (e : X.K = K := by rfl) : OpR X (compareOp .In) (rIn K false) := e ▸ op_in_seq
theorem op_notIn_seqK (e : X.K = K := by rfl) : OpR X (compareOp .NotIn) (rIn K true) := e ▸ op_notIn_seq
theorem call_isiK (e : X.K = K := by rfl) : CallR X (.builtin "isinstance") (rIsi K) := e ▸ call_isi
theorem call_listAK (e : X.K = K := by rfl) : CallR X (.type "list") (rListA K) := e ▸ call_listA
theorem call_tupleAK (e : X.K = K := by rfl) : CallR X (.type "tuple") (rTupleA K) := e ▸ call_tupleA
theorem sl_listK (e : X.K = K := by rfl) : SlR X (rSlL K) := e ▸ sl_list
theorem pe_fldK {o : Expr} {f : Str} {pos : Pos} {ta : TE} (he : PE X o ta) (hb : attributeBase o f X.env (eval o X.env) = eval o X.env) (e : X.K = K := by rfl) : PE X (.Attribute o f pos) (tFld K ta f) := e ▸ pe_fld he hb
end
end Ox
namespace Ox
open PySem PySem.Spec PyProof.Rows L2
theorem pg_tupK {X : Cx} {K : PySem.W.Frag} {es : List Expr} {k : Nat} {pos : Pos} {t : TGs} {n : Nat} (hc : X.calm = true) (h : PGs X es t) (hn : (assignEach es X.env).length = n := by rfl) (hst : (assignEach es X.env).findIdx? (·.1) = none := by rfl)
    (e : X.K = K := by rfl) : PG X (.Tuple es k pos) (gTup K n t) := e ▸ pg_tup hc h hn hst
end Ox
namespace Ox
open PySem PySem.Spec PyProof.Rows L2
theorem putL_old {α : Type} {l : List (Str × α)} {z : Str} (x : α) (h : z ∈ l.map (·.1)) : putL l z x = l.map fun p => if p.1 = z then (p.1, x) else p := by
  unfold putL
  rw [if_pos h]
theorem putL_putL {α : Type} (l : List (Str × α)) (z : Str) (a b : α) : putL (putL l z a) z b = putL l z b := by
  by_cases e : z ∈ l.map (·.1)
  · have e2 : z ∈ (putL l z a).map (·.1) := by rw [putL_keys a e]; exact e
    rw [putL_old b e2, putL_old b e, putL_old a e, List.map_map]
    refine List.map_congr_left fun p _ => ?_
    show (if (if p.1 = z then (p.1, a) else p).1 = z then ((if p.1 = z then (p.1, a) else p).1, b) else (if p.1 = z then (p.1, a) else p)) = _
    by_cases h : p.1 = z
    · simp [h]
    · simp [h]
  · have e2 : z ∈ (putL l z a).map (·.1) := by rw [putL_new a e]; simp
    rw [putL_old b e2, putL_new a e, putL_new b e, List.map_append]
    have h4 : (l.map fun p => if p.1 = z then (p.1, b) else p) = l := by
      conv => rhs; rw [← List.map_id l]
      refine List.map_congr_left fun p hp => ?_
      have : ¬ p.1 = z := fun q => e (by rw [← q]; exact List.mem_map.mpr ⟨p, hp, rfl⟩)
      rw [if_neg this]
      rfl
    rw [h4]
    simp
end Ox

/-! Own layer, second part: list(d.values()), kinds of values, own classes. -/
namespace Ox
open PySem PySem.Spec PyProof.Rows L2
/-! ### list(d.values()), list(d) -/
def rListVA (x : V) (H : Hp) (Q : VK) : Prop := ∃ (d : Addr) (kvs : List (Key × V)), x = .ref d ∧ Rd H d (.dK kvs) ∧ ∀ p, H p = none → Q (.ref p) (upd H p (.lst (kvs.map Prod.snd)))
def tListVA (te : TE) : TE := fun σ H Q => te σ H fun x H1 => rListVA x H1 Q
section
variable {X : Cx} {e : Expr} {te : TE} {p apos cpos pos : Pos}
theorem pe_listV (hc : X.calm = true) (he : PE X e te) (hg : Gl X "list") (hm : X.mg "list" = none) (hv : bootBuiltins "list" = some (.type "list") := by decide +kernel)
    (hbase : attributeBase e "values" X.env (eval e X.env) = eval e X.env := by rfl)
    (hline : (apos.endLine == cpos.line) = true := by rfl)
    (hs : starEach [.Call (.Attribute e "values" apos) [] [] cpos] X.env = (false, eval (.Call (.Attribute e "values" apos) [] [] cpos) X.env) :: starEach [] X.env := by rfl) :
    PE X (.Call (.Name "list" p) [.Call (.Attribute e "values" apos) [] [] cpos] [] pos) (tListVA te) := ⟨fun pins s σ H Q I hq => by
  refine wpAny_Call_Name_kw (ld_blt I hg hm hv (PyProof.Rows.callWith_type1 ?_ hs rfl))
  rw [hs]
  show wpAny _ _ (spliced ((false, eval (.Call (.Attribute e "values" apos) [] [] cpos) X.env) :: backTo pos (starEach [] X.env))) _ _ _
  refine Calls.spliced_cons (wpAny_Call_method (T := "dict") (id := "dict.values") hbase rfl hline F.plainAttrs_dict F.slot_dict_values F.type_dict_values ?_)
  refine thn (he.run pins s σ H _ I hq) fun u s1 ⟨x, H1, I1, rx, d, kvs, ex, hd, q⟩ => ?_
  subst ex
  obtain rfl : u = Value.ref d := rx
  obtain ⟨hz, hs0, ws, kv, hdo⟩ := (show ObjOk X.prog X.w H1 s1.heap d (.dK kvs) from hd.ok I1.hok)
  obtain ⟨ep, hat⟩ := hdo.dictAt
  have lk : kvs.length = ws.length := Paired.length kv
  have I2 : Inv X pins σ H1 { s1 with heap := s1.heap.push { cls := .type "dict_values", data := .fields #[.ref d] } } := I1.kept fun b ob q => Heap.get?_push_of_some _ q
  refine ⟨hdo.typeIs, hdo.mapOf.noDict, ?_⟩
  show wpAny _ _ (callWith cpos (.builtin "dict.values") [.ref d] [] []) _ X.xe s1
  refine method_meetsIn F.slot_dict_values F.entry_dict_values rfl (PySem.evalArgs_none ⟨rfl, hdo.typeIs, F.args_dict_values_1 _, _, meets_dict_values (mixKind X.prog X.w) d hs0, ⟨ws, hdo⟩, Calls.spliced_nil ?_⟩)
  refine PySem.W.kdl_call (PySem.W.kdl_values (knd := mixKind X.prog X.w) (kvs := ws) (ep := ep)) (I1.ok.hd hc) ⟨⟨_, Heap.get?_push_size _ rfl, rfl, rfl⟩, hat.push _⟩ (by omega) fun h' tk acc c hk hS hacc => ?_
  refine ⟨.ref _, upd H1 _ (.lst (kvs.map Prod.snd)), I2.laid hk (Nat.le_refl _) (show ObjOk X.prog X.w _ _ _ (.lst (kvs.map Prod.snd)) from ⟨by rw [List.length_map]; exact hz, acc.toList, c, ?_, by rw [Array.toArray_toList]; exact hS⟩), rfl, q _ (I2.hok.fresh (Nat.le_refl _))⟩
  have el : acc.toList.length = acc.size := by simp
  refine vals_of_at (by rw [List.length_map, el, hacc.1, lk]) fun j x w h1 h2 => ?_
  obtain ⟨k, hky⟩ := hacc.2 j w (by rw [← Array.getElem?_toList]; exact h2)
  rw [List.getElem?_map] at h1
  cases e2 : kvs[j]? with
  | none => rw [e2] at h1; cases h1
  | some kvj =>
    rw [e2] at h1
    have h3 : kvj.2 = x := Option.some.inj h1
    obtain ⟨y, hy, _, ry⟩ := LiI.paired_get kv e2
    rw [hky] at hy
    cases hy
    rw [← h3]
    exact ry⟩
end
theorem x_listV {σ : L2.St} {H : Hp} {Q : VK} {te : TE} (h : te σ H fun x H1 => rListVA x H1 Q) : tListVA te σ H Q := h
theorem x_listv {H : Hp} {Q : VK} {d : Addr} {kvs : List (Key × V)} (h : Rd H d (.dK kvs)) (q : ∀ p, H p = none → Q (.ref p) (upd H p (.lst (kvs.map Prod.snd)))) : rListVA (.ref d) H Q := ⟨d, kvs, rfl, h, q⟩
theorem x_listD {H : Hp} {Q : VK} {d : Addr} {kvs : List (Key × V)} (h : H d = some (.dK kvs)) (q : ∀ p, H p = none → Q (.ref p) (upd H p (.lst (kvs.map fun kv => kV kv.1)))) : rListD [.ref d] H Q := ⟨d, kvs, rfl, h, q⟩
/-! ### kinds of values -/
inductive Kn where
  | non | bl | int | str | lst | tup | dict
  deriving DecidableEq
def Kn.ty : Kn → String
  | .non => "NoneType" | .bl => "bool" | .int => "int" | .str => "str" | .lst => "list" | .tup => "tuple" | .dict => "dict"
/-- x is of the kind -/
inductive Kd (K : PySem.W.Frag) (H : Hp) : V → Kn → Prop where
  | non : Kd K H .non .non
  | bl (b : Bool) : Kd K H (.bl b) .bl
  | int (i : Int) : Kd K H (.int i) .int
  | str (z : Str) : Kd K H (.str z) .str
  | lst {a : Addr} {xs : List V} (h : SqL K H a xs) : Kd K H (.ref a) .lst
  | tup {a : Addr} {xs : List V} (h : SqT K H a xs) : Kd K H (.ref a) .tup
  | dict {a : Addr} {kvs : List (Key × V)} (h : Rd H a (.dK kvs)) : Kd K H (.ref a) .dict
theorem Kd.tyx {K : PySem.W.Frag} {H : Hp} {x : V} {k : Kn} (h : Kd K H x k) : TyX K H x (.type k.ty) := by
  cases h with
  | non => exact .base .non
  | bl b => exact .base (.bl b)
  | int i => exact .base (.int i)
  | str z => exact .base (.str z)
  | lst h =>
    rcases h with (h | ⟨o, h⟩) | ⟨o, its, n, h1, h2, _⟩
    · exact .base (.lst h)
    · exact .base (.frz h)
    · exact .kList h1 h2
  | tup h =>
    rcases h with (h | ⟨o, h⟩) | ⟨o, its, n, h1, h2, _⟩
    · exact .base (.tup h)
    · exact .fTuple h
    · exact .kTuple h1 h2
  | dict h =>
    rcases h with h | ⟨o, h⟩
    · exact .base (.dK h)
    · exact .fDict h
def isB : Kn → Kn → Bool
  | .non, .non => true | .bl, .bl => true | .bl, .int => true | .int, .int => true | .str, .str => true | .lst, .lst => true | .tup, .tup => true | .dict, .dict => true
  | _, _ => false
theorem kitB_is : ∀ k T : Kn, T ≠ .non → kitB k.ty T.ty = some (isB k T) := by
  intro k T hT
  cases T with
  | non => exact absurd rfl hT
  | _ => cases k <;> decide +kernel
section
variable {K : PySem.W.Frag} {H : Hp} {Q : VK} {x : V} {k : Kn}
theorem x_isi (T : Kn) (h : Kd K H x k) (q : Q (.bl (isB k T)) H) (hT : T ≠ .non := by decide) : rIsi K [x, .ty T.ty] H Q := ⟨x, _, _, _, _, rfl, .ty _, h.tyx, kit_ty (kitB_is k T hT), q⟩
theorem x_isiInt (h : Kd K H x k) (q : Q (.bl (isB k .int)) H) : rIsi K [x, .ty "int"] H Q := x_isi .int h q
theorem x_isiBool (h : Kd K H x k) (q : Q (.bl (isB k .bl)) H) : rIsi K [x, .ty "bool"] H Q := x_isi .bl h q
theorem x_isiStr (h : Kd K H x k) (q : Q (.bl (isB k .str)) H) : rIsi K [x, .ty "str"] H Q := x_isi .str h q
theorem x_isiList (h : Kd K H x k) (q : Q (.bl (isB k .lst)) H) : rIsi K [x, .ty "list"] H Q := x_isi .lst h q
theorem x_isiTup (h : Kd K H x k) (q : Q (.bl (isB k .tup)) H) : rIsi K [x, .ty "tuple"] H Q := x_isi .tup h q
theorem x_isiDict (h : Kd K H x k) (q : Q (.bl (isB k .dict)) H) : rIsi K [x, .ty "dict"] H Q := x_isi .dict h q
end
/-! ### own classes: isinstance -/
/-- the class at C: what isinstance asks of it -/
structure Isc (K : PySem.W.Frag) (C : Addr) : Prop where
  cl : Cls K C
  ha : PySem.W.findIn K (.ref C) "__class__" = some (some (.builtin "object.__class__"))
  hn : PySem.W.specialIn K (.builtin "object.__class__") "__get__" = some (some (.builtin "getset_descriptor.__get__"))
  ht : PySem.W.takesIn K (.builtin "object.__class__") = some true
  hm : PySem.W.mroIn K C (.type "object") = some true
theorem x_isiOwn {K : PySem.W.Frag} {H : Hp} {Q : VK} {a C D dx : Addr} {fs : List (Str × V)} {b : Bool} (i : Isc K C) (h : H a = some (.ins C dx fs)) (hk : PySem.W.kitOne K (.ref C) (.ref D) = some b) (q : Q (.bl b) H) : rIsi K [.ref a, .ref D] H Q :=
  ⟨_, _, _, _, _, rfl, .own D, .base (.ins h i.cl i.ha i.hn i.ht i.hm), hk, q⟩
def iscB (C : Str) : PySem.W.Frag → Bool := fun K => (He.Fa.cls C).ok K && (He.eqO (PySem.W.findIn K (.ref (He.ga K C)) "__class__") (some (some (.builtin "object.__class__"))) && (He.eqO (PySem.W.specialIn K (.builtin "object.__class__") "__get__") (some (some (.builtin "getset_descriptor.__get__"))) &&
  (decide (PySem.W.takesIn K (.builtin "object.__class__") = some true) && decide (PySem.W.mroIn K (He.ga K C) (.type "object") = some true))))
theorem iscB_ok {C : Str} {K : PySem.W.Frag} (h : iscB C K = true) : Isc K (He.ga K C) := by
  obtain ⟨h1, h⟩ := Bool.and_eq_true_iff.mp h
  obtain ⟨h2, h⟩ := Bool.and_eq_true_iff.mp h
  obtain ⟨h3, h⟩ := Bool.and_eq_true_iff.mp h
  obtain ⟨h4, h5⟩ := Bool.and_eq_true_iff.mp h
  exact ⟨He.cls_ok h1, He.eqO_ok h2, He.eqO_ok h3, of_decide_eq_true h4, of_decide_eq_true h5⟩
/-- kitOne between own classes, told as a fact -/
def kitF (C D : Str) (b : Bool) : PySem.W.Frag → Bool := fun K => decide (PySem.W.kitOne K (.ref (He.ga K C)) (.ref (He.ga K D)) = some b)
theorem kitF_ok {C D : Str} {b : Bool} {K : PySem.W.Frag} (h : kitF C D b K = true) : PySem.W.kitOne K (.ref (He.ga K C)) (.ref (He.ga K D)) = some b := of_decide_eq_true h
end Ox
namespace Ox
open PySem PySem.Spec PyProof.Rows L2
/-! ### == by an own __eq__, any answer -/
def rEqOwn (C : Addr) (sp : Sp) : R2 := fun x y H Q => ∃ a b dx dy fs gs, x = .ref a ∧ y = .ref b ∧ H a = some (.ins C dx fs) ∧ H b = some (.ins C dy gs) ∧ sp [.ref a, .ref b] H (fun v H' => ∃ k, v = .bl k ∧ Q (.bl k) H') E0
theorem op_eqOwn {X : Cx} {C : Addr} {k : Nat} {sp : Sp} {ps : List Str} (M : Met X.prog X.w X.K X.mg X.base C k "__eq__" ps sp) (hr : Room k X.A) : OpR X (compareOp .Eq) (rEqOwn C sp) := by
  obtain ⟨f, fd, mt, F, hb⟩ := M.ex
  intro pins s σ H x y u v Q I rx ry h
  obtain ⟨a, b, dx, dy, fs, gs, rfl, rfl, ha, hb2, hsp⟩ := h
  cases rx
  cases ry
  obtain ⟨mA, J, _⟩ := ins_get I.hok ha
  obtain ⟨mB, J2, _⟩ := ins_get I.hok hb2
  obtain ⟨od, J, _⟩ := J.look
  obtain ⟨od2, J2, _⟩ := J2.look
  obtain ⟨m, hF⟩ := I.fr
  show wpAny (model X.prog X.w) X.A (richCompare .Eq (.ref a) (.ref b)) (EP X pins σ Q) X.xe s
  refine PySem.W.cmp_K (op := .Eq) (tb := .ref C) hr.units0 hF I.ok.mod.kin J J2.type (by simp [PySem.W.notFirst]) mt.at_ mt.fn ?_
  have hl := F.len _ _ _ _ hsp
  have r2 : Vals [V.ref a, V.ref b] [Value.ref a, Value.ref b] := .cons rfl (.cons rfl .nil)
  refine wpAny_call (codeAny_mono (F.run X.A X.stack s H ⟨[.ref a, .ref b], []⟩ [.ref a, .ref b] [.ref a, .ref b] _ E0 hr I.env0 (by
    have := hb s [.ref a, .ref b] I.kIn (by simpa using hl)
    simpa using this) r2 hsp) fun r s' hq => ?_)
  cases r with
  | error e => exact hq.elim
  | ok fl =>
    cases fl with
    | ret w =>
      obtain ⟨z, H', I', rz, kk, ez, q⟩ := I.after hq
      subst ez
      cases rz
      exact ⟨.bl kk, H', I', rfl, q⟩
    | next => exact False.elim hq
    | brk => exact False.elim hq
    | cont => exact False.elim hq
theorem x_eqOwn {C : Addr} {sp : Sp} {H : Hp} {Q : VK} {a b dx dy : Addr} {fs gs : List (Str × V)} (ha : H a = some (.ins C dx fs)) (hb : H b = some (.ins C dy gs)) (h : sp [.ref a, .ref b] H (fun v H' => ∃ k, v = .bl k ∧ Q (.bl k) H') E0) : rEqOwn C sp (.ref a) (.ref b) H Q :=
  ⟨a, b, dx, dy, fs, gs, rfl, rfl, ha, hb, h⟩
end Ox
namespace Ox
open PySem PySem.Spec PyProof.Rows L2
theorem Kd.same {K : PySem.W.Frag} {H H' : Hp} {x : V} {k : Kn} (s : L2.Same H H') (h : Kd K H x k) : Kd K H' x k := by
  cases h with
  | non => exact .non
  | bl b => exact .bl b
  | int i => exact .int i
  | str z => exact .str z
  | lst h => exact .lst (s.seq h)
  | tup h => exact .tup (same_t s h)
  | dict h => exact .dict (same_rd s h)
/-- .. where one dict is held -/
theorem Kd.held {K : PySem.W.Frag} {H : Hp} {x : V} {k : Kn} {d : Addr} {o : Obj} {kvs : List (Key × V)} (hd : H d = some (.dK kvs)) (h : Kd K H x k) : Kd K (upd H d (.frz o (.dK kvs))) x k := by
  have rd : ∀ {a u}, Rd H a u → Rd (upd H d (.frz o (.dK kvs))) a u := fun {a u} h => by
    by_cases e : a = d
    · subst e
      rcases h with h | ⟨o', h⟩
      · rw [hd] at h
        cases h
        exact .inr ⟨o, upd_same⟩
      · rw [hd] at h
        cases h
    · rcases h with h | ⟨o', h⟩
      · exact .inl (by rw [upd_ne e]; exact h)
      · exact .inr ⟨o', by rw [upd_ne e]; exact h⟩
  cases h with
  | non => exact .non
  | bl b => exact .bl b
  | int i => exact .int i
  | str z => exact .str z
  | lst h => exact .lst (h.elim (fun h => .inl (rd h)) .inr)
  | tup h => exact .tup (h.elim (fun h => .inl (rd h)) .inr)
  | dict h => exact .dict (rd h)
end Ox
namespace Ox
open PySem PySem.Spec PyProof.Rows L2
section
variable {σ : L2.St} {H : Hp} {Q : VK} {ta : TE} {K : PySem.W.Frag} {C : Addr} {sp : Sp}
def rRevA (K : PySem.W.Frag) (x : V) (H : Hp) (Q : VK) : Prop := ∃ a xs, x = .ref a ∧ SqL K H a xs ∧ ∀ p, H p = none → Q (.ref p) (upd H p (.lst xs.reverse))
theorem x_revL (h : ta σ H fun x H1 => rRevA K x H1 Q) : tRevL K ta σ H Q := h
theorem x_rev {a : Addr} {xs : List V} (h : SqL K H a xs) (q : ∀ p, H p = none → Q (.ref p) (upd H p (.lst xs.reverse))) : rRevA K (.ref a) H Q := ⟨a, xs, rfl, h, q⟩
def rPropA (C : Addr) (sp : Sp) (x : V) (H : Hp) (Q : VK) : Prop := ∃ a dx fs, x = .ref a ∧ H a = some (.ins C dx fs) ∧ sp [.ref a] H Q E0
theorem x_prop (h : ta σ H fun x H1 => rPropA C sp x H1 Q) : tProp C sp [] E0 ta σ H Q := h
theorem x_prp {a dx : Addr} {fs : List (Str × V)} (h : H a = some (.ins C dx fs)) (q : sp [.ref a] H Q E0) : rPropA C sp (.ref a) H Q := ⟨a, dx, fs, rfl, h, q⟩
theorem x_putL {α : Type} {f : α → V} {l : List (Str × α)} {z : Str} {x : α} {v : V} {p : Addr} {N : Hp → Prop} (h : H p = some (.dK (strK f l))) (hl : l.length < 10000) (hv : v = f x) (q : N (upd H p (.dK (strK f (putL l z x))))) : rDputA (.ref p) (.str z) v H N := by
  subst hv
  refine x_putS h (sz_lt (by rw [List.length_map]; exact hl)) ?_
  rw [strK_put]
  exact q
theorem x_getL {α : Type} {f : α → V} {l : List (Str × α)} {z : Str} {x : α} {p : Addr} (h : Rd H p (.dK (strK f l))) (e : l.lookup z = some x) (q : Q (f x) H) : rGetA (.ref p) (.str z) H Q :=
  x_getS h (by rw [strK_look, e]; rfl) q
theorem x_inD {α : Type} {f : α → V} {l : List (Str × α)} {z : Str} {p : Addr} (h : Rd H p (.dK (strK f l))) (q : Q (.bl (l.lookup z).isSome) H) : rDinA (.str z) (.ref p) H Q := by
  refine x_dinS h ?_
  rw [strK_look, Option.isSome_map]
  exact q
theorem x_ninD {α : Type} {f : α → V} {l : List (Str × α)} {z : Str} {p : Addr} (h : Rd H p (.dK (strK f l))) (q : Q (.bl (!(l.lookup z).isSome)) H) : rDninA (.str z) (.ref p) H Q := by
  refine x_dninS h ?_
  rw [strK_look, Option.isSome_map]
  exact q
end
end Ox

namespace Law
open PySem PySem.Spec PyProof.Rows L2 Ox
def top (i : Nat) : Stmt := PySem.Challenge.pw_ownslips_k08_mirrored_wishes.main.body.getD i (.Pass ⟨0, 0, 0, 0⟩)
abbrev s_is_integer : Stmt := top 1
abbrev N_is_integer : List Str := ["thing"]
theorem sc_is_integer : FnScope N_is_integer ["thing"] (defScope s_is_integer) := ⟨rfl, rfl, rfl, by decide +kernel, rfl, by decide +kernel, by decide +kernel⟩
theorem bd_is_integer {K : PySem.W.Frag} {f : Addr} {fd : FuncData} (F : Fun K "is_integer" "is_integer" s_is_integer f fd) : Binds K fd ["thing"] [] := F.binds fun _ _ _ _ _ _ us hl => match us, hl with | [_], _ => rfl
abbrev s_is_name : Stmt := top 2
abbrev N_is_name : List Str := ["thing", "char"]
theorem sc_is_name : FnScope N_is_name ["thing"] (defScope s_is_name) := ⟨rfl, rfl, rfl, by decide +kernel, rfl, by decide +kernel, by decide +kernel⟩
theorem bd_is_name {K : PySem.W.Frag} {f : Addr} {fd : FuncData} (F : Fun K "is_name" "is_name" s_is_name f fd) : Binds K fd ["thing"] [] := F.binds fun _ _ _ _ _ _ us hl => match us, hl with | [_], _ => rfl
abbrev s_is_value : Stmt := top 7
abbrev N_is_value : List Str := ["thing"]
theorem sc_is_value : FnScope N_is_value ["thing"] (defScope s_is_value) := ⟨rfl, rfl, rfl, by decide +kernel, rfl, by decide +kernel, by decide +kernel⟩
theorem bd_is_value {K : PySem.W.Frag} {f : Addr} {fd : FuncData} (F : Fun K "is_value" "is_value" s_is_value f fd) : Binds K fd ["thing"] [] := F.binds fun _ _ _ _ _ _ us hl => match us, hl with | [_], _ => rfl
abbrev s_are_worths : Stmt := top 8
abbrev N_are_worths : List Str := ["thing", "name", "value"]
theorem sc_are_worths : FnScope N_are_worths ["thing"] (defScope s_are_worths) := ⟨rfl, rfl, rfl, by decide +kernel, rfl, by decide +kernel, by decide +kernel⟩
theorem bd_are_worths {K : PySem.W.Frag} {f : Addr} {fd : FuncData} (F : Fun K "are_worths" "are_worths" s_are_worths f fd) : Binds K fd ["thing"] [] := F.binds fun _ _ _ _ _ _ us hl => match us, hl with | [_], _ => rfl
abbrev s_Wish_init : Stmt := inClass (top 9) 0
abbrev N_Wish_init : List Str := ["self", "worths", "endless", "below", "above", "value", "name"]
theorem sc_Wish_init : FnScope N_Wish_init ["self", "worths", "endless"] (defScope s_Wish_init) := ⟨rfl, rfl, rfl, by decide +kernel, rfl, by decide +kernel, by decide +kernel⟩
theorem bd_Wish_init {K : PySem.W.Frag} {f : Addr} {fd : FuncData} (F : Fun K "__init__" "Wish.__init__" s_Wish_init f fd) : Binds K fd ["self", "worths", "endless"] [] := F.binds fun _ _ _ _ _ _ us hl => match us, hl with | [_, _, _], _ => rfl
abbrev s_Wish_worths : Stmt := inClass (top 9) 1
abbrev N_Wish_worths : List Str := ["self", "name"]
theorem sc_Wish_worths : FnScope N_Wish_worths ["self"] (defScope s_Wish_worths) := ⟨rfl, rfl, rfl, by decide +kernel, rfl, by decide +kernel, by decide +kernel⟩
theorem bd_Wish_worths {K : PySem.W.Frag} {f : Addr} {fd : FuncData} (F : Fun K "worths" "Wish.worths" s_Wish_worths f fd) : Binds K fd ["self"] [] := F.binds fun _ _ _ _ _ _ us hl => match us, hl with | [_], _ => rfl
abbrev s_Wish_eq : Stmt := inClass (top 9) 2
abbrev N_Wish_eq : List Str := ["self", "other"]
theorem sc_Wish_eq : FnScope N_Wish_eq ["self", "other"] (defScope s_Wish_eq) := ⟨rfl, rfl, rfl, by decide +kernel, rfl, by decide +kernel, by decide +kernel⟩
theorem bd_Wish_eq {K : PySem.W.Frag} {f : Addr} {fd : FuncData} (F : Fun K "__eq__" "Wish.__eq__" s_Wish_eq f fd) : Binds K fd ["self", "other"] [] := F.binds fun _ _ _ _ _ _ us hl => match us, hl with | [_, _], _ => rfl
abbrev s_mirrored : Stmt := top 10
abbrev N_mirrored : List Str := ["wish", "name", "value"]
theorem sc_mirrored : FnScope N_mirrored ["wish"] (defScope s_mirrored) := ⟨rfl, rfl, rfl, by decide +kernel, rfl, by decide +kernel, by decide +kernel⟩
theorem bd_mirrored {K : PySem.W.Frag} {f : Addr} {fd : FuncData} (F : Fun K "mirrored" "mirrored" s_mirrored f fd) : Binds K fd ["wish"] [] := F.binds fun _ _ _ _ _ _ us hl => match us, hl with | [_], _ => rfl
abbrev s_pool : Stmt := top 12
abbrev N_pool : List Str := ["_law_script", "_law_pool_here", "_law_k", "_law_number"]
theorem sc_pool : FnScope N_pool ["_law_script"] (defScope s_pool) := ⟨rfl, rfl, rfl, by decide +kernel, rfl, by decide +kernel, by decide +kernel⟩
theorem bd_pool {K : PySem.W.Frag} {f : Addr} {fd : FuncData} (F : Fun K "_law_pool" "_law_pool" s_pool f fd) : Binds K fd ["_law_script"] [] := F.binds fun _ _ _ _ _ _ us hl => match us, hl with | [_], _ => rfl
abbrev s_draw : Stmt := top 13
abbrev N_draw : List Str := ["_law_pool_here", "_law_many", "_law_found", "_law_mixed"]
theorem sc_draw : FnScope N_draw ["_law_pool_here", "_law_many"] (defScope s_draw) := ⟨rfl, rfl, rfl, by decide +kernel, rfl, by decide +kernel, by decide +kernel⟩
theorem bd_draw {K : PySem.W.Frag} {f : Addr} {fd : FuncData} (F : Fun K "_law_draw" "_law_draw" s_draw f fd) : Binds K fd ["_law_pool_here", "_law_many"] [] := F.binds fun _ _ _ _ _ _ us hl => match us, hl with | [_, _], _ => rfl
abbrev s_word : Stmt := top 14
abbrev N_word : List Str := ["_law_pool_here", "_law_longest", "_law_letters", "_law_signs", "_law_word_here", "_law_k"]
theorem sc_word : FnScope N_word ["_law_pool_here", "_law_longest"] (defScope s_word) := ⟨rfl, rfl, rfl, by decide +kernel, rfl, by decide +kernel, by decide +kernel⟩
theorem bd_word {K : PySem.W.Frag} {f : Addr} {fd : FuncData} (F : Fun K "_law_word" "_law_word" s_word f fd) : Binds K fd ["_law_pool_here", "_law_longest"] [] := F.binds fun _ _ _ _ _ _ us hl => match us, hl with | [_, _], _ => rfl
abbrev s_words : Stmt := top 15
abbrev N_words : List Str := ["_law_pool_here", "_law_many", "_law_longest", "_law_words_here", "_law_k", "_law_word_here", "_law_j"]
theorem sc_words : FnScope N_words ["_law_pool_here", "_law_many"] (defScope s_words) := ⟨rfl, rfl, rfl, by decide +kernel, rfl, by decide +kernel, by decide +kernel⟩
theorem bd_words {K : PySem.W.Frag} {f : Addr} {fd : FuncData} (F : Fun K "_law_words" "_law_words" s_words f fd) : Binds K fd ["_law_pool_here", "_law_many"] [] := F.binds fun _ _ _ _ _ _ us hl => match us, hl with | [_, _], _ => rfl
abbrev s_endless : Stmt := top 16
abbrev N_endless : List Str := ["_law_pool_here", "_law_wanted", "_law_values", "_law_side", "_law_gap", "_law_name"]
theorem sc_endless : FnScope N_endless ["_law_pool_here", "_law_wanted"] (defScope s_endless) := ⟨rfl, rfl, rfl, by decide +kernel, rfl, by decide +kernel, by decide +kernel⟩
theorem bd_endless {K : PySem.W.Frag} {f : Addr} {fd : FuncData} (F : Fun K "_law_endless" "_law_endless" s_endless f fd) : Binds K fd ["_law_pool_here", "_law_wanted"] [] := F.binds fun _ _ _ _ _ _ us hl => match us, hl with | [_, _], _ => rfl
abbrev s_law : Stmt := top 17
abbrev N_law : List Str := ["_law_script", "_law_pool_here", "_law_alike", "_law_reach", "_law_worths", "_law_name", "_law_endless_here", "_law_wish", "_law_other", "_law_found", "_law_turned"]
theorem sc_law : FnScope N_law ["_law_script"] (defScope s_law) := ⟨rfl, rfl, rfl, by decide +kernel, rfl, by decide +kernel, by decide +kernel⟩
theorem bd_law {K : PySem.W.Frag} {f : Addr} {fd : FuncData} (F : Fun K "law" "law" s_law f fd) : Binds K fd ["_law_script"] [] := F.binds fun _ _ _ _ _ _ us hl => match us, hl with | [_], _ => rfl
end Law
namespace Law
open PySem PySem.Spec PyProof.Rows L2 Ox
local macro_rules | `(tactic| walk_at "hp") => `(tactic| first
  | assumption
  | exact upd_same
  | (refine (upd_ne ?_).trans ?_; (walk_at "ne"); (walk_at "hp")))
local macro_rules | `(tactic| walk_at "ne") => `(tactic| first
  | assumption
  | exact Ne.symm (by assumption)
  | exact ne_old (by assumption) (by walk_at "hp")
  | exact Ne.symm (ne_old (by assumption) (by walk_at "hp"))
  | exact ne_two (by walk_at "hp") (by walk_at "hp") (by intro z; cases z)
  | exact fun z => absurd z (by decide))
local macro_rules | `(tactic| walk_at "kd") => `(tactic| first
  | exact .non
  | exact .bl _
  | exact .int _
  | exact .str _
  | assumption
  | exact .lst (SqL.of (by walk_at "hp"))
  | exact .tup (SqT.of (by walk_at "hp"))
  | exact .dict (.inl (by walk_at "hp")))
local macro_rules | `(tactic| walk_at "cond") => `(tactic| first
  | omega
  | exact mulok_r (by omega) (by omega)
  | exact mulok_l (by omega) (by omega)
  | exact divok (by omega) (by omega)
  | exact divok2 (by omega) (by omega)
  | exact ⟨by omega, by decide +kernel⟩
  | decide +kernel)
local macro_rules | `(tactic| walk_at "go") => `(tactic| repeat (first
  | (with_reducible refine x_seq ?_)
  | (with_reducible refine x_next ?_)
  | (with_reducible refine x_brk ?_)
  | (with_reducible refine x_cont ?_)
  | (with_reducible refine x_ret ?_)
  | (with_reducible refine x_retN ?_)
  | (with_reducible refine x_set ?_)
  | (with_reducible refine x_if ?_)
  | (with_reducible refine x_drop ?_)
  | (with_reducible refine x_par ?_)
  | (with_reducible refine x_par2 ?_)
  | (with_reducible refine x_setL ?_)
  | ((with_reducible refine' x_var ?xh ?_); (case xh => exact rfl))
  | ((with_reducible refine' x_aug ?xh ?_); (case xh => exact rfl))
  | (with_reducible refine x_c ?_)
  | (with_reducible refine x_op ?_)
  | (with_reducible refine x_un ?_)
  | (with_reducible refine x_I0 ?_)
  | (with_reducible refine x_ipI ?_)
  | ((with_reducible refine x_I ?xh ?_); (case xh => walk_at "cond"))
  | (with_reducible refine x_U ?_)
  | (with_reducible refine x_eqI ?_)
  | (with_reducible refine x_eqS ?_)
  | (with_reducible refine x_eqB ?_)
  | (with_reducible refine x_neI ?_)
  | (with_reducible refine x_neS ?_)
  | (with_reducible refine x_neB ?_)
  | (with_reducible refine x_blV ?_)
  | (with_reducible refine x_bl ?_)
  | (with_reducible refine x_test ?_)
  | (with_reducible refine x_B ?_)
  | (with_reducible refine x_not ?_)
  | (with_reducible refine x_and ?_)
  | (with_reducible refine x_or ?_)
  | (with_reducible refine x_andV ?_)
  | (with_reducible refine x_orV ?_)
  | (with_reducible refine x_notV ?_)
  | (with_reducible refine x_ifE ?_)
  | (with_reducible refine x_chain ?_)
  | (with_reducible refine x_nil ?_)
  | (with_reducible refine x_cons ?_)
  | (with_reducible refine x_tup ?_)
  | (with_reducible refine x_lst ?_)
  | (with_reducible refine x_cb ?_)
  | (with_reducible refine x_call ?_)
  | (with_reducible refine x_make ?_)
  | (with_reducible refine x_Fld ?_)
  | (with_reducible refine x_forL ?_)
  | (with_reducible refine x_forT ?_)
  | (with_reducible refine x_forR ?_)
  | (with_reducible refine x_forR2 ?_)
  | (with_reducible refine x_forS ?_)
  | (with_reducible refine x_forK ?_)
  | (with_reducible refine x_forI ?_)
  | (with_reducible refine x_forV ?_)
  | (with_reducible refine x_g1 ?_)
  | (with_reducible refine x_lc ?_)
  | (with_reducible refine x_dc ?_)
  | (with_reducible refine x_yes1 ?_)
  | (with_reducible refine x_iK ?_)
  | (with_reducible refine x_iV ?_)
  | (with_reducible refine x_iI ?_)
  | (with_reducible refine x_iL ?_)
  | (with_reducible refine x_iT ?_)
  | (with_reducible refine x_iS ?_)
  | (with_reducible refine x_iR ?_)
  | (with_reducible refine x_dget ?_)
  | (with_reducible refine x_din ?_)
  | (with_reducible refine x_dnin ?_)
  | (with_reducible refine x_dput ?_)
  | (with_reducible refine x_newK ?_)
  | (with_reducible refine x_listV ?_)
  | (with_reducible refine x_sfld ?_)
  | (with_reducible refine x_revL ?_)
  | (with_reducible refine x_prop ?_)
  | (with_reducible refine x_bm ?_)
  | (with_reducible refine x_bm0 ?_)
  | (with_reducible refine x_intI ?_)
  | (with_reducible refine x_max2 ?_)
  | (with_reducible refine x_min2 ?_)
  | (with_reducible refine x_abs ?_)
  | (with_reducible refine x_isN ?_)
  | (with_reducible refine x_notN ?_)
  | (with_reducible refine x_inS ?_)
  | (with_reducible refine x_ninS ?_)
  | (with_reducible refine x_T ?_)
  | (with_reducible refine x_F ?_)
  | (with_reducible refine x_nT ?_)
  | (with_reducible refine x_nF ?_)
  | ((with_reducible refine' x_lenL ?xh ?_); (case xh => exact SqL.of (by walk_at "hp")))
  | ((with_reducible refine' x_tyL ?xh ?_); (case xh => exact SqL.of (by walk_at "hp")))
  ))
/-! ### the pool of draws: nothing is said of what is drawn but its bounds -/
def PoolOk (ns : List Int) : Prop := ∃ x r, ns = x :: r ∧ 0 ≤ x ∧ x < 2147483647 ∧ r.length ≤ 63
abbrev intsV (ns : List Int) : List V := ns.map V.int
def PoolAt (H : Hp) (p : Addr) : Prop := ∃ ns, H p = some (.lst (intsV ns)) ∧ PoolOk ns
def spPool (K : PySem.W.Frag) : Sp := fun vs H Q _ => ∃ (a : Addr) (ns : List Int), vs = [.ref a] ∧ SqL K H a (intsV ns) ∧ ns.length ≤ 63 ∧
  ∀ H' p, L2.Same H H' → H p = none → PoolAt H' p → Q (.ref p) H'
def spDraw : Sp := fun vs H Q _ => ∃ (p : Addr) (m : Int), vs = [.ref p, .int m] ∧ PoolAt H p ∧ 0 < m ∧ m < 2 ^ 200 ∧
  ∀ H' r, But p H H' → PoolAt H' p → 0 ≤ r → r < m → Q (.int r) H'
theorem intsV_at {ns : List Int} {j : Nat} {z : Int} (h : ns[j]? = some z) : atI (intsV ns) (j : Int) = some (.int z) := atI_nat (by rw [List.getElem?_map, h]; rfl)
section
variable {P : Program} {w : World} {K : PySem.W.Frag} {mg : Str → Option Value} {base : Heap}
theorem ok_draw {f : Addr} {fd : FuncData} (F : Fun K "_law_draw" "_law_draw" s_draw f fd) (Z_len : mg "len" = none) (Z_int : mg "int" = none) : FnOk P w K mg base CX0 1 f fd ["_law_pool_here", "_law_many"] spDraw := by
  refine F.ok sc_draw (fun vs H Q E h => ?_) (fun cdv A outer s H vs Q E hr h => ?_)
  · obtain ⟨_, _, rfl, _⟩ := h
    rfl
  · obtain ⟨p, m, rfl, ⟨ns, hp, x, r, rfl, hx, hx2, hl⟩, hm, hm2, k⟩ := h
    refine ⟨_, (pss_cons (ps_if (pt_cmpR op_gt (pe_callB call_lenA (by rfl) Z_len (by decide +kernel) (pa_cons (pv 0) pa_nil)) pe_int (nomark _))
      (pss_cons (ps_set (i := 2) sc_draw.nd rfl (Or.inl rfl) (pe_op op_mod (pe_callTy call_intA (by rfl) Z_int (by decide +kernel) (pa_cons (pe_ix ix_list (pv 0) pe_int (fun _ _ => rfl)) pa_nil)) (pv 1)))
      (pss_cons (ps_asg (pe_op op_fdivA (pe_ix ix_list (pv 0) pe_int (fun _ _ => rfl)) (pv 1)) (pg_sub (pv 0) pe_int set_list))
      (pss_cons (ps_if (pt_cmpR op_le (pe_ix ix_list (pv 0) pe_int (fun _ _ => rfl)) pe_int (nomark _))
      (pss_one (ps_expr (pe_bm PySem.F.plainAttrs_list PySem.F.slot_list_pop PySem.F.type_list_pop mt_popAt (pv 0) (pa_cons pe_int pa_nil))))
      pss_nil)
      (pss_one (ps_ret (pv 2))))))
      pss_nil)
      (pss_cons (ps_asg (pe_op op_mod (pe_callTy call_intA (by rfl) Z_int (by decide +kernel) (pa_cons (pe_op op_add (pe_op op_mulA (pe_ix ix_list (pv 0) pe_int (fun _ _ => rfl)) pe_int) pe_int) pa_nil)) pe_int) (pg_sub (pv 0) pe_int set_list))
      (pss_cons (ps_set (i := 3) sc_draw.nd rfl (Or.inl rfl) (pe_op op_mod (pe_callTy call_intA (by rfl) Z_int (by decide +kernel) (pa_cons (pe_op op_mulA (pe_ix ix_list (pv 0) pe_int (fun _ _ => rfl)) (pe_op op_add (pe_op op_fdivA (pe_ix ix_list (pv 0) pe_int (fun _ _ => rfl)) pe_int) pe_int)) pa_nil)) pe_int))
      (pss_one (ps_ret (pe_op op_mod (pe_callTy call_intA (by rfl) Z_int (by decide +kernel) (pa_cons (pe_op op_fdivA (pv 3) pe_int) pa_nil)) (pv 1))))))), ?_⟩
    walk_at "go"
    refine x_dec (fun hc => ?_) (fun hc => ?_)
    · cases r with
      | nil => simp at hc
      | cons y r =>
        walk_at "go"
        refine x_ixl 1 (SqL.of hp) rfl rfl ?_
        walk_at "go"
        refine x_ixl 1 (SqL.of hp) rfl rfl ?_
        walk_at "go"
        refine x_setl (j := 1) hp rfl (by simp) ?_
        walk_at "go"
        refine x_ixl 1 (SqL.of upd_same) rfl rfl ?_
        walk_at "go"
        have hmod := Int.emod_nonneg y (show m ≠ 0 by omega)
        have hmod2 := Int.emod_lt_of_pos y hm
        refine x_dec (fun hd => ?_) (fun hd => ?_)
        · walk_at "go"
          refine x_popAt (j := 1) (y := .int (y / m)) upd_same rfl rfl (by simp at hl ⊢; omega) ?_
          walk_at "go"
          exact k _ _ (But.refl.at_.at_) ⟨x :: r, upd_same, x, r, rfl, hx, hx2, by simp at hl; omega⟩ hmod hmod2
        · walk_at "go"
          exact k _ _ (But.refl.at_) ⟨x :: (y / m) :: r, upd_same, x, _, rfl, hx, hx2, by simpa using hl⟩ hmod hmod2
    · walk_at "go"
      refine x_ixl 0 (SqL.of hp) rfl rfl ?_
      walk_at "go"
      refine x_setl (j := 0) hp rfl (by simp) ?_
      walk_at "go"
      generalize hz : (x * 48271 + 30103) % 2147483647 = z
      have z0 : 0 ≤ z := by rw [← hz]; exact Int.emod_nonneg _ (by decide)
      have z1 : z < 2147483647 := by rw [← hz]; exact Int.emod_lt_of_pos _ (by decide)
      have ez : (intsV (x :: r)).set 0 (.int z) = intsV (z :: r) := rfl
      rw [ez]
      refine x_ixl 0 (SqL.of upd_same) rfl rfl ?_
      walk_at "go"
      refine x_ixl 0 (SqL.of upd_same) rfl rfl ?_
      walk_at "go"
      exact k _ _ (But.refl.at_) ⟨z :: r, upd_same, z, r, rfl, z0, z1, hl⟩ (Int.emod_nonneg _ (by omega)) (Int.emod_lt_of_pos _ hm)
theorem ok_pool {f : Addr} {fd : FuncData} (F : Fun K "_law_pool" "_law_pool" s_pool f fd) (Z_len : mg "len" = none) (Z_int : mg "int" = none) (Z_min : mg "min" = none) (Z_range : mg "range" = none) : FnOk P w K mg base CX0 1 f fd ["_law_script"] (spPool K) := by
  refine F.ok sc_pool (fun vs H Q E h => ?_) (fun cdv A outer s H vs Q E hr h => ?_)
  · obtain ⟨_, _, rfl, _⟩ := h
    rfl
  · obtain ⟨a, ns, rfl, hS, hlen, k⟩ := h
    refine ⟨_, (pss_cons (ps_set (i := 1) sc_pool.nd rfl (Or.inl rfl) (pe_lst (pa_cons (pe_op op_add (pe_op op_mod (pe_callB call_lenA (by rfl) Z_len (by decide +kernel) (pa_cons (pv 0) pa_nil)) pe_int) pe_int) pa_nil)))
      (pss_cons (ps_for PassesOwn.never rfl (pi_range1 rfl Z_range (pa_cons (pe_callB (call_min2A rfl) (by rfl) Z_min (by decide +kernel) (pa_cons pe_int (pa_cons (pe_callB call_lenA (by rfl) Z_len (by decide +kernel) (pa_cons (pv 0) pa_nil)) pa_nil))) pa_nil)) (pg_name (i := 2) sc_pool.nd rfl (Or.inl rfl))
      (pss_cons (ps_asg (pe_op op_mod (pe_callTy call_intA (by rfl) Z_int (by decide +kernel) (pa_cons (pe_op op_add (pe_op op_add (pe_op op_mulA (pe_ix ix_list (pv 1) pe_int (fun _ _ => rfl)) pe_int) (pe_op op_mod (pe_callTy call_intA (by rfl) Z_int (by decide +kernel) (pa_cons (pe_ix ix_list (pv 0) (pv 2) (fun _ _ => rfl)) pa_nil)) pe_int)) (pe_op op_mulA pe_int (pv 2))) pa_nil)) pe_int) (pg_sub (pv 1) pe_int set_list))
      (pss_one (ps_if (pt_cmpR op_ge (pe_ix ix_list (pv 0) (pv 2) (fun _ _ => rfl)) (pe_op op_powW pe_int pe_int) (nomark _))
      (pss_cons (ps_set (i := 3) sc_pool.nd rfl (Or.inl rfl) (pe_op op_mod (pe_callTy call_intA (by rfl) Z_int (by decide +kernel) (pa_cons (pe_ix ix_list (pv 0) (pv 2) (fun _ _ => rfl)) pa_nil)) (pe_op op_powW (pe_op op_powW pe_int pe_int) pe_int)))
      (pss_one (ps_if (pt_cmpR op_gt (pv 3) pe_int (nomark _))
      (pss_one (ps_expr (pe_bm PySem.F.plainAttrs_list PySem.F.slot_list_append PySem.F.type_list_append mt_append (pv 1) (pa_cons (pv 3) pa_nil))))
      pss_nil)))
      pss_nil))))
      (pss_one (ps_ret (pv 1))))), ?_⟩
    walk_at "go"
    refine x_lenL hS ?_
    walk_at "go"
    refine ⟨sz_le (by simp), fun p hp => ?_⟩
    walk_at "go"
    have s1 : L2.Same H (upd H p (.lst [.int (((intsV ns).length : Int) % 1009 + 17)])) := same_new hp
    refine x_lenL (s1.seq hS) ?_
    walk_at "go"
    have el : (intsV ns).length = ns.length := List.length_map ..
    refine lpR (fun i σ H' => ∃ v2 v3 ps, σ = [some (.ref a), some (.ref p), v2, v3] ∧ L2.Same H H' ∧ H' p = some (.lst (intsV ps)) ∧ PoolOk ps ∧ ps.length ≤ i + 1) ?_ ?_ ?_ ?_
    · rw [el]
      split <;> omega
    · exact ⟨none, none, [_], rfl, s1, upd_same, ⟨_, [], rfl, by omega, by omega, by simp⟩, by simp⟩
    · rintro i σ H' hi ⟨v2, v3, ps, rfl, s2, hps, ⟨x, r, rfl, hx, hx2, hl⟩, hlp⟩
      have hi2 : i < ns.length := by
        rw [el] at hi
        split at hi <;> omega
      have hi3 : i < 63 := by
        rw [el] at hi
        split at hi <;> omega
      obtain ⟨z, hz⟩ : ∃ z, ns[i]? = some z := ⟨_, List.getElem?_eq_getElem hi2⟩
      have hz2 : (intsV ns)[i]? = some (.int z) := by rw [List.getElem?_map, hz]; rfl
      walk_at "go"
      refine x_ixl 0 (SqL.of hps) rfl rfl ?_
      walk_at "go"
      refine x_ixl i (s2.seq hS) rfl hz2 ?_
      walk_at "go"
      refine x_setl (j := 0) hps rfl (by simp) ?_
      walk_at "go"
      generalize hq : (x * 69621 + z % 1000003 + 7 * (i : Int)) % 2147483647 = q
      have q0 : 0 ≤ q := by rw [← hq]; exact Int.emod_nonneg _ (by decide)
      have q1 : q < 2147483647 := by rw [← hq]; exact Int.emod_lt_of_pos _ (by decide)
      have e1 : (intsV (x :: r)).set 0 (.int q) = intsV (q :: r) := rfl
      rw [e1]
      have s3 : L2.Same H (upd H' p (.lst (intsV (q :: r)))) := same_upd s2 hp
      refine x_ixl i (s3.seq hS) rfl hz2 ?_
      walk_at "go"
      refine x_dec (fun hc => ?_) (fun hc => ?_)
      · walk_at "go"
        refine x_ixl i (s3.seq hS) rfl hz2 ?_
        walk_at "go"
        refine x_dec (fun hd => ?_) (fun hd => ?_)
        · walk_at "go"
          refine x_app upd_same (sz_lt (by simp at hlp ⊢; omega)) ?_
          walk_at "go"
          generalize z % (10 ^ Int.toNat 60) ^ Int.toNat 10 = y at hd ⊢
          exact ⟨_, _, q :: (r ++ [y]), rfl, same_upd s3 hp, by rw [upd_same]; simp [intsV], ⟨q, _, rfl, q0, q1, by simp at hlp ⊢; omega⟩, by simp at hlp ⊢; omega⟩
        · walk_at "go"
          exact ⟨_, _, q :: r, rfl, s3, upd_same, ⟨q, r, rfl, q0, q1, hl⟩, by simp at hlp ⊢; omega⟩
      · walk_at "go"
        exact ⟨_, _, q :: r, rfl, s3, upd_same, ⟨q, r, rfl, q0, q1, hl⟩, by simp at hlp ⊢; omega⟩
    · rintro σ H' ⟨v2, v3, ps, rfl, s2, hps, hok, hlp⟩
      walk_at "go"
      exact k _ _ s2 hp ⟨ps, hps, hok⟩
end
/-! ### names -/
def lowC (d : Nat) : Prop := 97 ≤ d ∧ d ≤ 122
def sgnC (d : Nat) : Prop := (97 ≤ d ∧ d ≤ 122) ∨ (48 ≤ d ∧ d ≤ 57)
instance (d : Nat) : Decidable (lowC d) := inferInstanceAs (Decidable (_ ∧ _))
instance (d : Nat) : Decidable (sgnC d) := inferInstanceAs (Decidable (_ ∨ _))
/-- a name's signs -/
def NameL (l : List Nat) : Prop := ∃ d r, l = d :: r ∧ lowC d ∧ r.length ≤ 7 ∧ ∀ e ∈ r, sgnC e
def NameS (z : Str) : Prop := NameL z.cps.toList
theorem str_len (z : Str) : z.length = z.cps.toList.length := by show z.cps.size = _; simp
theorem tl_app (x y : Str) : (x ++ y).cps.toList = x.cps.toList ++ y.cps.toList := TL.tl_append x y
theorem NameS.len {z : Str} (h : NameS z) : z.length ≤ 8 := by
  obtain ⟨d, r, e, _, hl, _⟩ := h
  rw [str_len, e]
  simp
  omega
theorem letters_at : ∀ j < 26, ("abcdefghijklmnopqrstuvwxyz" : Str).cps.toList[j]? = some (97 + j) := by decide +kernel
theorem signs_at : ∀ j < 36, ∃ d, (("abcdefghijklmnopqrstuvwxyz" : Str) ++ ("0123456789" : Str)).cps.toList[j]? = some d ∧ sgnC d := by
  have h : ∀ j < 36, ((("abcdefghijklmnopqrstuvwxyz" : Str) ++ ("0123456789" : Str)).cps.toList[j]?).any (fun d => decide (sgnC d)) = true := by decide +kernel
  intro j hj
  have h1 := h j hj
  cases e : (("abcdefghijklmnopqrstuvwxyz" : Str) ++ ("0123456789" : Str)).cps.toList[j]? with
  | none => rw [e] at h1; cases h1
  | some d => rw [e] at h1; exact ⟨d, rfl, of_decide_eq_true h1⟩
def spWord : Sp := fun vs H Q _ => ∃ (p : Addr) (m : Int), vs = [.ref p, .int m] ∧ PoolAt H p ∧ 0 < m ∧ m ≤ 8 ∧
  ∀ H' z, But p H H' → PoolAt H' p → NameS z → Q (.str z) H'
section
variable {P : Program} {w : World} {K : PySem.W.Frag} {mg : Str → Option Value} {base : Heap}
theorem ok_word {f : Addr} {fd : FuncData} (F : Fun K "_law_word" "_law_word" s_word f fd) (Z_range : mg "range" = none) (C_draw : Cal P w K mg base 1 "_law_draw" ["_law_pool_here", "_law_many"] spDraw) : FnOk P w K mg base CX0 2 f fd ["_law_pool_here", "_law_longest"] spWord := by
  refine F.ok sc_word (fun vs H Q E h => ?_) (fun cdv A outer s H vs Q E hr h => ?_)
  · obtain ⟨_, _, rfl, _⟩ := h
    rfl
  · obtain ⟨p, m, rfl, hp, hm, hm2, k⟩ := h
    refine ⟨_, (pss_cons (ps_set (i := 2) sc_word.nd rfl (Or.inl rfl) pe_str)
      (pss_cons (ps_set (i := 3) sc_word.nd rfl (Or.inl rfl) (pe_op op_addSA (pv 2) pe_str))
      (pss_cons (ps_set (i := 4) sc_word.nd rfl (Or.inl rfl) (pe_ix ix_str (pv 2) (pe_cal C_draw (hr.mono (by decide)) (by rfl) (pa_cons (pv 0) (pa_cons pe_int pa_nil))) (fun _ _ => rfl)))
      (pss_cons (ps_for PassesOwn.never rfl (pi_range1 rfl Z_range (pa_cons (pe_cal C_draw (hr.mono (by decide)) (by rfl) (pa_cons (pv 0) (pa_cons (pv 1) pa_nil))) pa_nil)) (pg_name (i := 5) sc_word.nd rfl (Or.inl rfl))
      (pss_one (ps_set (i := 4) sc_word.nd rfl (Or.inl rfl) (pe_op op_addSA (pv 4) (pe_ix ix_str (pv 3) (pe_cal C_draw (hr.mono (by decide)) (by rfl) (pa_cons (pv 0) (pa_cons pe_int pa_nil))) (fun _ _ => rfl))))))
      (pss_one (ps_ret (pv 4))))))), ?_⟩
    walk_at "go"
    refine x_addS (by decide +kernel) ?_
    walk_at "go"
    refine ⟨p, 26, rfl, hp, by decide, by decide, fun H1 j b1 p1 j0 j1 => ?_⟩
    refine x_ixs j.toNat (by decide +kernel) (by omega) (letters_at _ (by omega)) ?_
    walk_at "go"
    refine ⟨p, m, rfl, p1, hm, by omega, fun H2 n b2 p2 n0 n1 => ?_⟩
    refine lpR (fun i σ H' => ∃ z v, σ = [some (.ref p), some (.int m), some (.str ("abcdefghijklmnopqrstuvwxyz" : Str)), some (.str (("abcdefghijklmnopqrstuvwxyz" : Str) ++ ("0123456789" : Str))), some (.str z), v] ∧ But p H H' ∧ PoolAt H' p ∧
      ∃ d r, z.cps.toList = d :: r ∧ lowC d ∧ r.length ≤ i ∧ ∀ e ∈ r, sgnC e) ?_ ?_ ?_ ?_
    · omega
    · exact ⟨_, none, rfl, b1.trans b2, p2, _, [], rfl, ⟨by omega, by omega⟩, by simp, by simp⟩
    · rintro i σ H' hi ⟨z, v, rfl, b3, p3, d, r, ez, hd, hl, hr2⟩
      walk_at "go"
      refine ⟨p, 36, rfl, p3, by decide, by decide, fun H4 j b4 p4 j2 j3 => ?_⟩
      obtain ⟨e, he, hs⟩ := signs_at j.toNat (by omega)
      refine x_ixs j.toNat (by decide +kernel) (by omega) he ?_
      refine x_addS (sz_le ?_) ?_
      · rw [str_len, ez]
        show _ + 1 ≤ _
        simp
        omega
      walk_at "go"
      refine ⟨_, _, rfl, b3.trans b4, p4, d, r ++ [e], ?_, hd, ?_, ?_⟩
      · rw [tl_app, ez]
        rfl
      · simp
        omega
      · intro x hx
        rcases List.mem_append.mp hx with hx | hx
        · exact hr2 x hx
        · rw [List.mem_singleton.mp hx]
          exact hs
    · rintro σ H' ⟨z, v, rfl, b3, p3, d, r, ez, hd, hl, hr2⟩
      walk_at "go"
      exact k _ _ b3 p3 ⟨d, r, ez, hd, by omega, hr2⟩
end
/-! ### several names, all different -/
def nmS (t : Nat) : Str := ("n" : Str) ++ Str.ofString (toString ((t : Nat) : Int))
theorem nmS_tl (t : Nat) : (nmS t).cps.toList = 110 :: TL.numL t := by
  unfold nmS
  rw [tl_app]
  have e : ("n" : Str).cps.toList = [110] := by decide +kernel
  rw [e]
  show 110 :: _ = _
  exact congrArg (List.cons 110) (TL.tl_num t)
theorem nmS_inj {a b : Nat} (h : nmS a = nmS b) : a = b := by
  have e := congrArg (fun z : Str => z.cps.toList) h
  simp only [nmS_tl, List.cons.injEq, true_and] at e
  exact TL.numL_inj e
theorem nmS_name {t : Nat} (h : t < 1000000) : NameS (nmS t) := by
  refine ⟨110, TL.numL t, nmS_tl t, ⟨by omega, by omega⟩, ?_, fun e he => ?_⟩
  · exact Nat.le_trans (TL.numL_len (k := 6) (by decide) (by simpa using h)) (by decide)
  · have := TL.numL_digits t e he
    exact .inr ⟨this.1, this.2⟩
abbrev strsV (ws : List Str) : List V := ws.map V.str
def spWords : Sp := fun vs H Q _ => ∃ (p : Addr) (m : Int), vs = [.ref p, .int m] ∧ PoolAt H p ∧ 0 ≤ m ∧ m ≤ 1000 ∧
  ∀ H' q ws, But p H H' → PoolAt H' p → H q = none → H' q = some (.lst (strsV ws)) → ws.length = m.toNat → (∀ z ∈ ws, NameS z) → ws.Nodup → Q (.ref q) H'
theorem all_nm {ws : List Str} {n : Nat} (h : ∀ t < n, nmS t ∈ ws) : n ≤ ws.length := by
  have nd : ((List.range n).map nmS).Nodup := by
    refine List.pairwise_map.mpr (List.Pairwise.imp (fun {a b} hab e => ?_) (List.nodup_range (n := n)))
    exact hab (nmS_inj e)
  have sub : ((List.range n).map nmS) ⊆ ws := fun x hx => by
    obtain ⟨t, ht, rfl⟩ := List.mem_map.mp hx
    exact h t (List.mem_range.mp ht)
  have := List.Nodup.length_le_of_subset nd sub
  simpa using this
section
variable {P : Program} {w : World} {K : PySem.W.Frag} {mg : Str → Option Value} {base : Heap}
theorem ok_words {f : Addr} {fd : FuncData} (F : Fun K "_law_words" "_law_words" s_words f fd) (Z_range : mg "range" = none) (Z_str : mg "str" = none) (C_draw : Cal P w K mg base 1 "_law_draw" ["_law_pool_here", "_law_many"] spDraw)
    (C_word : Cal P w K mg base 2 "_law_word" ["_law_pool_here", "_law_longest"] spWord) : FnOk P w K mg base CX0 3 f fd ["_law_pool_here", "_law_many"] spWords := by
  refine F.ok sc_words (fun vs H Q E h => ?_) (fun cdv A outer s H vs Q E hr h => ?_)
  · obtain ⟨_, _, rfl, _⟩ := h
    rfl
  · obtain ⟨p, m, rfl, hp, hm, hm2, k⟩ := h
    refine ⟨_, (pss_cons (ps_set (i := 2) sc_words.nd rfl (Or.inl rfl) (pe_ix ix_list (pe_lst (pa_cons pe_int (pa_cons pe_int (pa_cons pe_int (pa_cons pe_int pa_nil))))) (pe_cal C_draw (hr.mono (by decide)) (by rfl) (pa_cons (pv 0) (pa_cons pe_int pa_nil))) (fun _ _ => rfl)))
      (pss_cons (ps_set (i := 3) sc_words.nd rfl (Or.inl rfl) (pe_lst pa_nil))
      (pss_cons (ps_for PassesOwn.never rfl (pi_range1 rfl Z_range (pa_cons (pv 1) pa_nil)) (pg_name (i := 4) sc_words.nd rfl (Or.inl rfl))
      (pss_cons (ps_set (i := 5) sc_words.nd rfl (Or.inl rfl) (pe_cal C_word (hr.mono (by decide)) (by rfl) (pa_cons (pv 0) (pa_cons (pv 2) pa_nil))))
      (pss_cons (ps_for PassesOwn.never rfl (pi_range1 rfl Z_range (pa_cons (pe_op op_add (pv 1) pe_int) pa_nil)) (pg_name (i := 6) sc_words.nd rfl (Or.inl rfl))
      (pss_one (ps_if (pt_cmpR op_in_seq (pv 5) (pv 3) rfl)
      (pss_one (ps_set (i := 5) sc_words.nd rfl (Or.inl rfl) (pe_op op_addSA pe_str (pe_callTy call_strIA (by rfl) Z_str (by decide +kernel) (pa_cons (pv 6) pa_nil)))))
      pss_nil)))
      (pss_one (ps_expr (pe_bm PySem.F.plainAttrs_list PySem.F.slot_list_append PySem.F.type_list_append mt_append (pv 3) (pa_cons (pv 5) pa_nil)))))))
      (pss_one (ps_ret (pv 3)))))), ?_⟩
    walk_at "go"
    refine ⟨sz_le (by simp), fun l hl => ?_⟩
    have hp1 : PoolAt (upd H l (.lst [.int 1, .int 2, .int 3, .int 8])) p := by
      obtain ⟨ns, e, ok⟩ := hp
      exact ⟨ns, by rw [upd_ne (ne_of_none e hl)]; exact e, ok⟩
    walk_at "go"
    refine ⟨p, 4, rfl, hp1, by decide, by decide, fun H1 j b1 p1 j0 j1 => ?_⟩
    have npl : l ≠ p := by
      obtain ⟨ns, e, ok⟩ := hp
      exact fun z => by rw [z, e] at hl; cases hl
    have hl1 : H1 l = some (.lst [.int 1, .int 2, .int 3, .int 8]) := b1 l _ upd_same npl
    have bb : But p H H1 := fun q o e n => b1 q o (by rw [upd_ne (ne_of_none e hl)]; exact e) n
    obtain ⟨g, hg, hg1, hg2⟩ : ∃ g : Int, [V.int 1, V.int 2, V.int 3, V.int 8][j.toNat]? = some (.int g) ∧ 0 < g ∧ g ≤ 8 := by
      have h4 : j = 0 ∨ j = 1 ∨ j = 2 ∨ j = 3 := by omega
      rcases h4 with rfl | rfl | rfl | rfl
      · exact ⟨1, rfl, by omega, by omega⟩
      · exact ⟨2, rfl, by omega, by omega⟩
      · exact ⟨3, rfl, by omega, by omega⟩
      · exact ⟨8, rfl, by omega, by omega⟩
    refine x_ixl j.toNat (SqL.of hl1) (by omega) hg ?_
    walk_at "go"
    refine ⟨sz_le (by simp), fun q hq => ?_⟩
    walk_at "go"
    have npq : q ≠ p := by
      obtain ⟨ns, e, ok⟩ := p1
      exact fun z => by rw [z, e] at hq; cases hq
    have hq0 : H q = none := by
      cases e : H q with
      | none => rfl
      | some o => rw [bb q o e npq] at hq; cases hq
    refine lpR (fun i σ H' => ∃ ws v4 v5 v6, σ = [some (.ref p), some (.int m), some (.int g), some (.ref q), v4, v5, v6] ∧ But p H H' ∧ PoolAt H' p ∧ H' q = some (.lst (strsV ws)) ∧ ws.length = i ∧ (∀ z ∈ ws, NameS z) ∧ ws.Nodup) ?_ ?_ ?_ ?_
    · omega
    · refine ⟨[], none, none, none, rfl, bb.new hq, ?_, upd_same, rfl, by simp, List.nodup_nil⟩
      obtain ⟨ns, e, ok⟩ := p1
      exact ⟨ns, by rw [upd_ne npq.symm]; exact e, ok⟩
    · rintro i σ H' hi ⟨ws, v4, v5, v6, rfl, b2, p2, hw, hlen, hnm, hnd⟩
      walk_at "go"
      refine ⟨p, g, rfl, p2, hg1, hg2, fun H3 z b3 p3 hz => ?_⟩
      have hw3 : H3 q = some (.lst (strsV ws)) := b3 q _ hw npq
      walk_at "go"
      refine lpR (fun j σ H' => ∃ z v6, σ = [some (.ref p), some (.int m), some (.int g), some (.ref q), some (.int (i : Int)), some (.str z), v6] ∧ H' = H3 ∧ NameS z ∧ (z ∉ ws ∨ ∀ t < j, nmS t ∈ ws)) ?_ ?_ ?_ ?_
      · omega
      · exact ⟨z, _, rfl, rfl, hz, .inr fun t ht => absurd ht (by omega)⟩
      · rintro j σ H' hj ⟨z, v6, rfl, rfl, hz, hor⟩
        walk_at "go"
        refine x_inL (ws := ws) (SqL.of hw3) ?_
        walk_at "go"
        refine x_dec (fun hin => ?_) (fun hin => ?_)
        · have hall : ∀ t < j, nmS t ∈ ws := hor.resolve_left fun e => e hin
          walk_at "go"
          refine x_strI (Nat.lt_of_le_of_lt (Nat.log2_le_self _) (by omega)) ?_
          refine x_addS (i := ("n" : Str)) (j := Str.ofString (toString ((j : Nat) : Int))) (sz_le ?_) ?_
          · have := (nmS_name (t := j) (by omega)).len
            unfold nmS at this
            rw [str_len, tl_app, List.length_append, ← str_len, ← str_len] at this
            omega
          walk_at "go"
          refine ⟨nmS j, _, rfl, rfl, nmS_name (by omega), ?_⟩
          by_cases e : nmS j ∈ ws
          · refine .inr fun t ht => ?_
            by_cases et : t = j
            · rw [et]; exact e
            · exact hall t (by omega)
          · exact .inl e
        · walk_at "go"
          exact ⟨z, _, rfl, rfl, hz, .inl hin⟩
      · rintro σ H' ⟨z, v6, rfl, rfl, hz, hor⟩
        have hnot : z ∉ ws := by
          rcases hor with h | h
          · exact h
          · have := all_nm h
            omega
        walk_at "go"
        refine x_app hw3 (sz_lt (by simp; omega)) ?_
        walk_at "go"
        refine ⟨ws ++ [z], _, _, _, rfl, fun b o e n => ?_, ?_, by rw [upd_same]; simp [strsV], by simp [hlen], ?_, ?_⟩
        · rw [upd_ne (ne_of_none e hq0)]
          exact b3 b o (b2 b o e n) n
        · obtain ⟨ns, e, ok⟩ := p3
          exact ⟨ns, by rw [upd_ne npq.symm]; exact e, ok⟩
        · intro x hx
          rcases List.mem_append.mp hx with hx | hx
          · exact hnm x hx
          · rw [List.mem_singleton.mp hx]; exact hz
        · refine List.nodup_append.mpr ⟨hnd, by simp, fun a ha b hb e => ?_⟩
          rw [List.mem_singleton.mp hb] at e
          exact hnot (e ▸ ha)
    · rintro σ H' ⟨ws, v4, v5, v6, rfl, b2, p2, hw, hlen, hnm, hnd⟩
      walk_at "go"
      exact k _ _ ws b2 p2 hq0 hw hlen hnm hnd
end
/-! ### endless beside the worths -/
/-- endless is at most, or at least, each of the worths -/
def Side (e : Int) (l : List (Str × Int)) : Prop := (∀ p ∈ l, e ≤ p.2) ∨ (∀ p ∈ l, p.2 ≤ e)
def spEndless : Sp := fun vs H Q _ => ∃ (p d : Addr) (l : List (Str × Int)), vs = [.ref p, .ref d] ∧ PoolAt H p ∧ H d = some (.dK (strK V.int l)) ∧ (l.map (·.1)).Nodup ∧ l.length ≤ 200 ∧ (∀ q ∈ l, -99 ≤ q.2 ∧ q.2 ≤ 99) ∧
  ∀ H' e, But p H H' → PoolAt H' p → -99 ≤ e → e ≤ 99 → Side e l → Q (.int e) H'
theorem PoolAt.upd {H : Hp} {p q : Addr} {o : HO} (h : PoolAt H p) (n : p ≠ q) : PoolAt (upd H q o) p := by
  obtain ⟨ns, e, ok⟩ := h
  exact ⟨ns, by rw [upd_ne n]; exact e, ok⟩
theorem PoolAt.new {H : Hp} {p q : Addr} {o : HO} (h : PoolAt H p) (n : H q = none) : PoolAt (L2.upd H q o) p := by
  obtain ⟨ns, e, ok⟩ := h
  exact ⟨ns, by rw [upd_ne (ne_of_none e n)]; exact e, ok⟩
theorem PoolAt.ne {H : Hp} {p q : Addr} (h : PoolAt H p) (n : H q = none) : q ≠ p := by
  obtain ⟨ns, e, ok⟩ := h
  exact fun z => by rw [z, e] at n; cases n
theorem PoolAt.same {H H' : Hp} {p : Addr} (h : PoolAt H p) (s : L2.Same H H') : PoolAt H' p := by
  obtain ⟨ns, e, ok⟩ := h
  exact ⟨ns, s _ _ e, ok⟩
theorem PoolAt.ned {H : Hp} {p d : Addr} {kvs : List (Key × V)} (h : PoolAt H p) (n : H d = some (.dK kvs)) : d ≠ p := by
  obtain ⟨ns, e, ok⟩ := h
  exact fun z => by rw [z, e] at n; cases n
section
variable {P : Program} {w : World} {K : PySem.W.Frag} {mg : Str → Option Value} {base : Heap}
theorem ok_endless {f : Addr} {fd : FuncData} (F : Fun K "_law_endless" "_law_endless" s_endless f fd) (Z_len : mg "len" = none) (Z_max : mg "max" = none) (Z_min : mg "min" = none)
    (C_draw : Cal P w K mg base 1 "_law_draw" ["_law_pool_here", "_law_many"] spDraw) : FnOk P w K mg base CX0 2 f fd ["_law_pool_here", "_law_wanted"] spEndless := by
  refine F.ok sc_endless (fun vs H Q E h => ?_) (fun cdv A outer s H vs Q E hr h => ?_)
  · obtain ⟨_, _, _, rfl, _⟩ := h
    rfl
  · obtain ⟨p, d, l, rfl, hp, hd, hnd, hlen, hb, k⟩ := h
    have hu := hu_of hr
    refine ⟨_, (pss_cons (ps_lock (ps_setLc (i := 2) (own := [("_law_name", 5)]) (g := gName 5) (tt := tYes) (by rfl) sc_endless.nd rfl rfl (sw_true rfl rfl rfl (by decide +kernel)) (pi_keys (pv 1)) (blkOk_by (own := [("_law_name", 5)]) (N := N_endless) (sc := defScope s_endless) (by decide +kernel)) (fun _ _ _ _ _ => (pg_name (i := 5) sc_endless.nd rfl (Or.inl rfl))) (fun _ _ _ _ _ => pts_nil) (fun _ _ _ _ _ => by exact (pe_dget hu (pv 1) (pv 5) (fun _ _ => rfl)))))
      (pss_cons (ps_set (i := 3) sc_endless.nd rfl (Or.inl rfl) (pe_cal C_draw (hr.mono (by decide)) (by rfl) (pa_cons (pv 0) (pa_cons pe_int pa_nil))))
      (pss_cons (ps_set (i := 4) sc_endless.nd rfl (Or.inl rfl) (pe_cal C_draw (hr.mono (by decide)) (by rfl) (pa_cons (pv 0) (pa_cons pe_int pa_nil))))
      (pss_cons (ps_if (pt_cmpR op_eq (pe_callB call_lenA (by rfl) Z_len (by decide +kernel) (pa_cons (pv 2) pa_nil)) pe_int (nomark _))
      (pss_one (ps_ret (pe_op op_sub (pv 4) pe_int)))
      pss_nil)
      (pss_cons (ps_if (pt_cmpR op_eq (pv 3) pe_int (nomark _))
      (pss_one (ps_ret (pe_callB (call_max2A rfl) (by rfl) Z_max (by decide +kernel) (pa_cons (pe_un un_neg pe_int) (pa_cons (pe_op op_sub (pe_callB (cr_min rfl) (by rfl) Z_min (by decide +kernel) (pa_cons (pv 2) pa_nil)) (pv 4)) pa_nil)))))
      pss_nil)
      (pss_one (ps_ret (pe_callB (call_min2A rfl) (by rfl) Z_min (by decide +kernel) (pa_cons pe_int (pa_cons (pe_op op_add (pe_callB (cr_max rfl) (by rfl) Z_max (by decide +kernel) (pa_cons (pv 2) pa_nil)) (pv 4)) pa_nil)))))))))), ?_⟩
    walk_at "go"
    refine x_lock hd trivial (fun od => ?_)
    walk_at "go"
    refine runK upd_same ?_
    intro D hD
    have hDd : D ≠ d := fun z => by rw [z, upd_same] at hD; cases hD
    have hD0 : H D = none := by rw [upd_ne hDd] at hD; exact hD
    refine lcK (fun i H' => But D (upd H d (.frz od (.dK (strK V.int l)))) H' ∧ H' D = some (.lst ((l.take i).map fun q => V.int q.2))) ?_ ?_ ?_ ?_
    · exact ⟨But.refl.at_, upd_same⟩
    · exact fun i H' _ hv => hv.1 d _ upd_same hDd.symm
    · rintro i k0 v0 H' hi ⟨hb1, hD1⟩
      obtain ⟨z, x, rfl, rfl, hlx⟩ := strK_at hi
      walk_at "go"
      refine ⟨rfl, ?_⟩
      walk_at "go"
      refine x_getS (kvs := strK V.int l) (.inr ⟨od, hb1 d _ upd_same hDd.symm⟩) (strK_val hnd hlx) ?_
      refine ⟨_, hD1, sz_lt ?_, hb1.at_, ?_⟩
      · simp; omega
      · rw [upd_same, take_succ_get hlx]
        simp
    · rintro H' ⟨hb1, hD1⟩
      refine ⟨hb1 d _ upd_same hDd.symm, ?_⟩
      have eL : (strK V.int l).length = l.length := List.length_map ..
      rw [eL, List.take_length] at hD1
      have hD2 : (upd H' d (.dK (strK V.int l))) D = some (.lst (l.map fun q => V.int q.2)) := by rw [upd_ne hDd]; exact hD1
      have b0 : L2.Same H (upd H' d (.dK (strK V.int l))) := fun b o e => by
        by_cases hbd : b = d
        · subst hbd
          rw [hd] at e
          rw [upd_same, e]
        · rw [upd_ne hbd]
          exact hb1 b o (by rw [upd_ne hbd]; exact e) (ne_of_none e hD0)
      generalize hH2 : upd H' d (.dK (strK V.int l)) = H2 at hD2 b0 ⊢
      have p2 : PoolAt H2 p := hp.same b0
      have npD : D ≠ p := fun z => by obtain ⟨ns, e, ok⟩ := hp; rw [z, e] at hD0; cases hD0
      walk_at "go"
      refine ⟨p, 2, rfl, p2, by decide, by decide, fun H3 j b3 p3 j0 j1 => ?_⟩
      walk_at "go"
      refine ⟨p, 3, rfl, p3, by decide, by decide, fun H4 gp b4 p4 g0 g1 => ?_⟩
      have hD4 : H4 D = some (.lst (l.map fun q => V.int q.2)) := b4 D _ (b3 D _ hD2 npD) npD
      have bb : But p H H4 := (But.of_same b0).trans (b3.trans b4)
      have eV : (l.map fun q => V.int q.2) = (l.map (·.2)).map V.int := (List.map_map ..).symm
      walk_at "go"
      refine x_dec (fun hc => ?_) (fun hc => ?_)
      · have hl : l = [] := by
          cases l with
          | nil => rfl
          | cons a r => simp at hc; omega
        walk_at "go"
        exact k _ _ bb p4 (by omega) (by omega) (.inl (by rw [hl]; simp))
      · have hpos : 0 < (l.map (·.2)).length := by
          rw [List.length_map]
          cases l with
          | nil => simp at hc
          | cons a r => simp
        walk_at "go"
        refine x_dec (fun hs => ?_) (fun hs => ?_)
        · walk_at "go"
          refine ⟨D, l.map (·.2), rfl, by rw [← eV]; exact SqL.of hD4, hpos, fun mm hm hle => ?_⟩
          obtain ⟨q, hq, hqm⟩ := List.mem_map.mp hm
          have hbq := hb q hq
          walk_at "go"
          refine k _ _ bb p4 ?_ ?_ (.inl fun y hy => ?_)
          · split <;> omega
          · split <;> omega
          · have h1 := hle y.2 (List.mem_map.mpr ⟨y, hy, rfl⟩)
            have h2 := hb y hy
            split <;> omega
        · walk_at "go"
          refine ⟨D, l.map (·.2), rfl, by rw [← eV]; exact SqL.of hD4, hpos, fun mm hm hle => ?_⟩
          obtain ⟨q, hq, hqm⟩ := List.mem_map.mp hm
          have hbq := hb q hq
          walk_at "go"
          refine k _ _ bb p4 ?_ ?_ (.inr fun y hy => ?_)
          · split <;> omega
          · split <;> omega
          · have h1 := hle y.2 (List.mem_map.mpr ⟨y, hy, rfl⟩)
            have h2 := hb y hy
            split <;> omega
end
/-! ### integers and names -/
def isIntK : Kn → Bool
  | .int => true
  | _ => false
def nameL : List Nat → Bool
  | [] => false
  | d :: r => decide (r.length ≤ 7) && (decide (lowC d) && r.all fun e => decide (sgnC e))
def nameV : V → Bool
  | .str z => nameL z.cps.toList
  | _ => false
theorem nameL_iff {l : List Nat} : nameL l = true ↔ NameL l := by
  cases l with
  | nil =>
    refine ⟨fun h => (by cases h), fun h => ?_⟩
    obtain ⟨d, r, e, _⟩ := h
    cases e
  | cons d r =>
    show (decide (r.length ≤ 7) && (decide (lowC d) && r.all fun e => decide (sgnC e))) = true ↔ _
    rw [Bool.and_eq_true, Bool.and_eq_true, decide_eq_true_iff, decide_eq_true_iff, List.all_eq_true]
    refine ⟨fun ⟨h1, h2, h3⟩ => ⟨d, r, rfl, h2, h1, fun e he => of_decide_eq_true (h3 e he)⟩, fun h => ?_⟩
    obtain ⟨d', r', e, h2, h1, h3⟩ := h
    injection e with e1 e2
    subst e1 e2
    exact ⟨h1, h2, fun e he => decide_eq_true (h3 e he)⟩
theorem NameS.v {z : Str} (h : NameS z) : nameV (.str z) = true := nameL_iff.mpr h
/-- a value of a known kind; a text not too long -/
def Fine (K : PySem.W.Frag) (H : Hp) (x : V) (k : Kn) : Prop := Kd K H x k ∧ ∀ z, x = .str z → z.length ≤ 10000
def spIsInt (K : PySem.W.Frag) : Sp := fun vs H Q _ => ∃ x k, vs = [x] ∧ Kd K H x k ∧ Q (.bl (isIntK k)) H
def spIsName (K : PySem.W.Frag) : Sp := fun vs H Q _ => ∃ x k, vs = [x] ∧ Fine K H x k ∧ Q (.bl (nameV x)) H
section
variable {P : Program} {w : World} {K : PySem.W.Frag} {mg : Str → Option Value} {base : Heap}
theorem ok_is_integer {f : Addr} {fd : FuncData} (F : Fun K "is_integer" "is_integer" s_is_integer f fd) (Z_int : mg "int" = none) (Z_bool : mg "bool" = none) (Z_isinstance : mg "isinstance" = none) : FnOk P w K mg base CX0 1 f fd ["thing"] (spIsInt K) := by
  refine F.ok sc_is_integer (fun vs H Q E h => ?_) (fun cdv A outer s H vs Q E hr h => ?_)
  · obtain ⟨_, _, rfl, _⟩ := h
    rfl
  · obtain ⟨x, k, rfl, hk, q⟩ := h
    refine ⟨_, (pss_one (ps_ret (pe_and (pe_callB call_isi (by rfl) Z_isinstance (by decide +kernel) (pa_cons (pv 0) (pa_cons (pe_bltn (v := .ty "int") (by rfl) Z_int (by decide +kernel) rfl) pa_nil))) (pe_one (pe_not (pe_callB call_isi (by rfl) Z_isinstance (by decide +kernel) (pa_cons (pv 0) (pa_cons (pe_bltn (v := .ty "bool") (by rfl) Z_bool (by decide +kernel) rfl) pa_nil)))))))), ?_⟩
    walk_at "go"
    refine x_isiInt hk ?_
    walk_at "go"
    cases k
    case int =>
      refine x_T ?_
      walk_at "go"
      refine x_isiBool hk ?_
      walk_at "go"
      exact q
    case bl =>
      refine x_T ?_
      walk_at "go"
      refine x_isiBool hk ?_
      walk_at "go"
      exact q
    all_goals
      refine x_F ?_
      exact q
theorem ok_is_name {f : Addr} {fd : FuncData} (F : Fun K "is_name" "is_name" s_is_name f fd) (Z_str : mg "str" = none) (Z_len : mg "len" = none) (Z_isinstance : mg "isinstance" = none) : FnOk P w K mg base CX0 1 f fd ["thing"] (spIsName K) := by
  refine F.ok sc_is_name (fun vs H Q E h => ?_) (fun cdv A outer s H vs Q E hr h => ?_)
  · obtain ⟨_, _, rfl, _⟩ := h
    rfl
  · obtain ⟨x, k, rfl, ⟨hk, hz⟩, q⟩ := h
    refine ⟨_, (pss_cons (ps_if (PW.pt (pw_or (pt_not (pt_val (pe_callB call_isi (by rfl) Z_isinstance (by decide +kernel) (pa_cons (pv 0) (pa_cons (pe_bltn (v := .ty "str") (by rfl) Z_str (by decide +kernel) rfl) pa_nil))))) (pw_or1 (pt_not (pt_chain op_le op_le pe_int (pe_callB call_lenA (by rfl) Z_len (by decide +kernel) (pa_cons (pv 0) pa_nil)) pe_int)))))
      (pss_one (ps_ret pe_bl))
      pss_nil)
      (pss_cons (ps_if (pt_not (pt_chain op_leS op_leS pe_str (pe_ix ix_str (pv 0) pe_int (fun _ _ => rfl)) pe_str))
      (pss_one (ps_ret pe_bl))
      pss_nil)
      (pss_cons (ps_for PassesOwn.never rfl (pi_str (pv 0)) (pg_name (i := 1) sc_is_name.nd rfl (Or.inl rfl))
      (pss_one (ps_if (PW.pt (pw_and (pt_not (pt_chain op_leS op_leS pe_str (pv 1) pe_str)) (pw_and1 (pt_not (pt_chain op_leS op_leS pe_str (pv 1) pe_str)))))
      (pss_one (ps_ret pe_bl))
      pss_nil)))
      (pss_one (ps_ret pe_bl))))), ?_⟩
    walk_at "go"
    refine x_isiStr hk ?_
    walk_at "go"
    have other : ∀ {x}, (∀ z, x ≠ V.str z) → nameV x = false := fun {x} h => by
      cases x with
      | str z => exact absurd rfl (h z)
      | _ => rfl
    cases hk with
    | str z =>
      have hzl := hz z rfl
      have hzs : z.length ≤ sizeLine := sz_le hzl
      refine x_nT ?_
      walk_at "go"
      refine x_lenS hzs ?_
      walk_at "go"
      have el := str_len z
      refine x_dec (fun h1 => ?_) (fun h1 => ?_)
      · walk_at "go"
        refine x_ndec (fun h8 => ?_) (fun h8 => ?_)
        · walk_at "go"
          have e : nameV (.str z) = false := by
            show nameL z.cps.toList = false
            cases ez : z.cps.toList with
            | nil => rfl
            | cons d r =>
              rw [el, ez] at h8
              simp at h8
              show (decide (r.length ≤ 7) && _) = false
              rw [decide_eq_false (by omega)]
              rfl
          rw [e] at q
          exact q
        · walk_at "go"
          cases ez : z.cps.toList with
          | nil =>
            rw [el, ez] at h1
            simp at h1
          | cons d r =>
            have hl7 : r.length ≤ 7 := by
              rw [el, ez] at h8
              simp at h8
              omega
            refine x_ixs 0 hzs rfl (by rw [ez]; rfl) ?_
            refine x_leL 97 chr_a ?_
            walk_at "go"
            have neg : ¬ lowC d → Q (.bl false) H := fun hn => by
              have e : nameV (.str z) = false := by
                show nameL z.cps.toList = false
                rw [ez]
                show (decide (r.length ≤ 7) && (decide (lowC d) && _)) = false
                rw [decide_eq_false hn]
                simp
              rw [e] at q
              exact q
            refine x_dec (fun ha => ?_) (fun ha => ?_)
            · walk_at "go"
              refine x_leR 122 chr_z ?_
              walk_at "go"
              refine x_ndec (fun hb => ?_) (fun hb => ?_)
              · walk_at "go"
                exact neg fun hl => hb hl.2
              · walk_at "go"
                have hlow : lowC d := ⟨ha, hb⟩
                refine lpS (fun i σ H' => ∃ v, σ = [some (.str z), v] ∧ H' = H ∧ ∀ j < i, ∃ e, (d :: r)[j]? = some e ∧ sgnC e) ?_ ?_ ?_
                · exact ⟨none, rfl, rfl, fun j hj => absurd hj (by omega)⟩
                · rintro i e σ H' hi ⟨v, rfl, rfl, hall⟩
                  have hi2 : (d :: r)[i]? = some e := by rw [← ez, Array.getElem?_toList]; exact hi
                  have bad : ¬ sgnC e → Q (.bl false) H' := fun hn => by
                    have e0 : nameV (.str z) = false := by
                      show nameL z.cps.toList = false
                      rw [ez]
                      cases i with
                      | zero =>
                        have : d = e := Option.some.inj hi2
                        subst this
                        exact absurd (.inl hlow) hn
                      | succ i =>
                        have hm : e ∈ r := List.mem_of_getElem? (i := i) hi2
                        have : (r.all fun e => decide (sgnC e)) = false := by
                          cases ea : (r.all fun e => decide (sgnC e)) with
                          | false => rfl
                          | true => exact absurd (of_decide_eq_true (List.all_eq_true.mp ea e hm)) hn
                        show (decide (r.length ≤ 7) && (decide (lowC d) && (r.all fun e => decide (sgnC e)))) = false
                        rw [this]
                        simp
                    rw [e0] at q
                    exact q
                  have good : sgnC e → ∀ j < i + 1, ∃ e, (d :: r)[j]? = some e ∧ sgnC e := fun hg j hj => by
                    by_cases ej : j = i
                    · subst ej; exact ⟨e, hi2, hg⟩
                    · exact hall j (by omega)
                  walk_at "go"
                  refine x_leL 97 chr_a ?_
                  walk_at "go"
                  have second : ¬ (97 ≤ e ∧ e ≤ 122) → (48 ≤ e ∧ e ≤ 57 → sgnC e) := fun _ h => .inr h
                  refine x_dec (fun ha => ?_) (fun ha => ?_)
                  · walk_at "go"
                    refine x_leR 122 chr_z ?_
                    walk_at "go"
                    refine x_ndec (fun hb => ?_) (fun hb => ?_)
                    · walk_at "go"
                      refine x_leL 48 chr_0 ?_
                      walk_at "go"
                      refine x_dec (fun hc => ?_) (fun hc => ?_)
                      · walk_at "go"
                        refine x_leR 57 chr_9 ?_
                        walk_at "go"
                        refine x_ndec (fun hd => ?_) (fun hd => ?_)
                        · walk_at "go"
                          exact bad fun hs => by rcases hs with hs | hs <;> omega
                        · walk_at "go"
                          exact ⟨_, rfl, rfl, good (.inr ⟨hc, hd⟩)⟩
                      · walk_at "go"
                        exact bad fun hs => by rcases hs with hs | hs <;> omega
                    · walk_at "go"
                      exact ⟨_, rfl, rfl, good (.inl ⟨ha, hb⟩)⟩
                  · walk_at "go"
                    refine x_leL 48 chr_0 ?_
                    walk_at "go"
                    refine x_dec (fun hc => ?_) (fun hc => ?_)
                    · walk_at "go"
                      refine x_leR 57 chr_9 ?_
                      walk_at "go"
                      refine x_ndec (fun hd => ?_) (fun hd => ?_)
                      · walk_at "go"
                        exact bad fun hs => by rcases hs with hs | hs <;> omega
                      · walk_at "go"
                        exact ⟨_, rfl, rfl, good (.inr ⟨hc, hd⟩)⟩
                    · walk_at "go"
                      exact bad fun hs => by rcases hs with hs | hs <;> omega
                · rintro σ H' ⟨v, rfl, rfl, hall⟩
                  walk_at "go"
                  have e : nameV (.str z) = true := by
                    refine nameL_iff.mpr ⟨d, r, ez, hlow, hl7, fun e he => ?_⟩
                    obtain ⟨j, hj, hje⟩ := List.getElem_of_mem he
                    obtain ⟨e', h1, h2⟩ := hall (j + 1) (by
                      have : z.cps.size = (d :: r).length := by rw [← ez]; simp
                      rw [this]
                      simp
                      exact hj)
                    have h3 : (d :: r)[j + 1]? = some e := by
                      show r[j]? = some e
                      rw [List.getElem?_eq_getElem hj, hje]
                    rw [h3] at h1
                    cases h1
                    exact h2
                  rw [e] at q
                  exact q
            · walk_at "go"
              exact neg fun hl => ha hl.1
      · walk_at "go"
        have e : nameV (.str z) = false := by
          show nameL z.cps.toList = false
          cases ez : z.cps.toList with
          | nil => rfl
          | cons d r =>
            rw [el, ez] at h1
            simp at h1
            omega
        rw [e] at q
        exact q
    | non => rw [other (fun z => by simp)] at q; refine x_nF ?_; walk_at "go"; exact q
    | bl b => rw [other (fun z => by simp)] at q; refine x_nF ?_; walk_at "go"; exact q
    | int i => rw [other (fun z => by simp)] at q; refine x_nF ?_; walk_at "go"; exact q
    | lst h => rw [other (fun z => by simp)] at q; refine x_nF ?_; walk_at "go"; exact q
    | tup h => rw [other (fun z => by simp)] at q; refine x_nF ?_; walk_at "go"; exact q
    | dict h => rw [other (fun z => by simp)] at q; refine x_nF ?_; walk_at "go"; exact q
end
/-! ### wishes -/
def valueV : V → Bool
  | .int i => decide (-99 ≤ i) && decide (i ≤ 99)
  | _ => false
def spIsValue (K : PySem.W.Frag) : Sp := fun vs H Q _ => ∃ x k, vs = [x] ∧ Kd K H x k ∧ Q (.bl (valueV x)) H
def worthsB (kvs : List (Key × V)) : Bool := decide (kvs.length ≤ 100) && kvs.all fun p => nameV (kV p.1) && valueV p.2
def kvFine (K : PySem.W.Frag) (H : Hp) (kvs : List (Key × V)) : Prop := ∀ p ∈ kvs, (∀ z, p.1 = Sum.inr z → z.length ≤ 10000) ∧ ∃ k, Kd K H p.2 k
/-- of a dict; of anything else it is False -/
def spAreWorths (K : PySem.W.Frag) : Sp := fun vs H Q _ => (∃ d kvs, vs = [.ref d] ∧ H d = some (.dK kvs) ∧ kvFine K H kvs ∧ ∀ H', L2.Same H H' → Q (.bl (worthsB kvs)) H') ∨
  ∃ x k, vs = [x] ∧ Kd K H x k ∧ k ≠ .dict ∧ Q (.bl false) H
theorem kV_kd {K : PySem.W.Frag} {H : Hp} (k : Key) : ∃ n, Kd K H (kV k) n := by
  cases k with
  | inl i => exact ⟨_, .int i⟩
  | inr z => exact ⟨_, .str z⟩
section
variable {P : Program} {w : World} {K : PySem.W.Frag} {mg : Str → Option Value} {base : Heap}
theorem ok_is_value {f : Addr} {fd : FuncData} (F : Fun K "is_value" "is_value" s_is_value f fd) (C_is_integer : Cal P w K mg base 1 "is_integer" ["thing"] (spIsInt K)) : FnOk P w K mg base CX0 2 f fd ["thing"] (spIsValue K) := by
  refine F.ok sc_is_value (fun vs H Q E h => ?_) (fun cdv A outer s H vs Q E hr h => ?_)
  · obtain ⟨_, _, rfl, _⟩ := h
    rfl
  · obtain ⟨x, k, rfl, hk, q⟩ := h
    refine ⟨_, (pss_one (ps_ret (pe_and (pe_cal C_is_integer (hr.mono (by decide)) (by rfl) (pa_cons (pv 0) pa_nil)) (pe_one (pe_chain op_le op_le (pe_un un_neg pe_int) (pv 0) pe_int))))), ?_⟩
    walk_at "go"
    refine ⟨x, k, rfl, hk, ?_⟩
    walk_at "go"
    cases hk with
    | int i =>
      refine x_T ?_
      walk_at "go"
      have e : valueV (.int i) = (decide (-99 ≤ i) && decide (i ≤ 99)) := rfl
      rw [e] at q
      refine x_dec (fun h1 => ?_) (fun h1 => ?_)
      · rw [decide_eq_true h1, Bool.true_and] at q
        walk_at "go"
        exact q
      · rw [decide_eq_false h1, Bool.false_and] at q
        exact q
    | non => exact x_F q
    | bl b => exact x_F q
    | str z => exact x_F q
    | lst h => exact x_F q
    | tup h => exact x_F q
    | dict h => exact x_F q
theorem ok_are_worths {f : Addr} {fd : FuncData} (F : Fun K "are_worths" "are_worths" s_are_worths f fd) (Z_dict : mg "dict" = none) (Z_len : mg "len" = none) (Z_isinstance : mg "isinstance" = none)
    (C_is_name : Cal P w K mg base 1 "is_name" ["thing"] (spIsName K)) (C_is_value : Cal P w K mg base 2 "is_value" ["thing"] (spIsValue K)) : FnOk P w K mg base CX0 3 f fd ["thing"] (spAreWorths K) := by
  refine F.ok sc_are_worths (fun vs H Q E h => ?_) (fun cdv A outer s H vs Q E hr h => ?_)
  · rcases h with ⟨_, _, rfl, _⟩ | ⟨_, _, rfl, _⟩ <;> rfl
  · refine ⟨_, (pss_cons (ps_if (PW.pt (pw_or (pt_not (pt_val (pe_callB call_isi (by rfl) Z_isinstance (by decide +kernel) (pa_cons (pv 0) (pa_cons (pe_bltn (v := .ty "dict") (by rfl) Z_dict (by decide +kernel) rfl) pa_nil))))) (pw_or1 (pt_cmpR op_gt (pe_callB call_lenDA (by rfl) Z_len (by decide +kernel) (pa_cons (pv 0) pa_nil)) pe_int (nomark _)))))
      (pss_one (ps_ret pe_bl))
      pss_nil)
      (pss_cons (ps_lock (ps_for PassesOwn.never rfl (pi_items (pv 0)) (pg_tup rfl (pgs_cons (pg_name (i := 1) sc_are_worths.nd rfl (Or.inl rfl)) (pgs_cons (pg_name (i := 2) sc_are_worths.nd rfl (Or.inl rfl)) pgs_nil)))
      (pss_one (ps_if (PW.pt (pw_or (pt_not (pt_val (pe_cal C_is_name (hr.mono (by decide)) (by rfl) (pa_cons (pv 1) pa_nil)))) (pw_or1 (pt_not (pt_val (pe_cal C_is_value (hr.mono (by decide)) (by rfl) (pa_cons (pv 2) pa_nil)))))))
      (pss_one (ps_ret pe_bl))
      pss_nil))))
      (pss_one (ps_ret pe_bl)))), ?_⟩
    rcases h with ⟨d, kvs, rfl, hd, hf, q⟩ | ⟨x, k, rfl, hk, hn, q⟩
    · walk_at "go"
      refine x_isiDict (.dict (.inl hd)) ?_
      walk_at "go"
      refine x_nT ?_
      walk_at "go"
      refine x_lenD (.inl hd) ?_
      walk_at "go"
      refine x_dec (fun hc => ?_) (fun hc => ?_)
      · walk_at "go"
        have e : worthsB kvs = false := by
          show (decide (kvs.length ≤ 100) && _) = false
          rw [decide_eq_false (by omega)]
          rfl
        rw [e] at q
        exact q H (L2.Same.refl H)
      · walk_at "go"
        refine x_lock hd trivial (fun od => ?_)
        walk_at "go"
        refine lpI (fun i σ H' => ∃ v1 v2, σ = [some (.ref d), v1, v2] ∧ L2.Same (upd H d (.frz od (.dK kvs))) H' ∧ ∀ p ∈ kvs.take i, (nameV (kV p.1) && valueV p.2) = true) upd_same ?_ ?_ ?_ ?_
        · exact ⟨none, none, rfl, L2.Same.refl _, by simp⟩
        · exact fun i σ H' _ ⟨_, _, _, s1, _⟩ => s1 d _ upd_same
        · rintro i k0 v0 σ H' T hi ⟨v1, v2, rfl, s1, hall⟩ hT
          have hm : (k0, v0) ∈ kvs := List.mem_of_getElem? hi
          obtain ⟨hkz, kn, hkn⟩ := hf _ hm
          have s2 : L2.Same (upd H d (.frz od (.dK kvs))) (upd H' T (.tup [kV k0, v0])) := same_upd s1 (s1.free hT)
          have sH : L2.Same H (upd (upd H' T (.tup [kV k0, v0])) d (.dK kvs)) := fun b o e => by
            by_cases hbd : b = d
            · subst hbd
              rw [hd] at e
              rw [upd_same, e]
            · rw [upd_ne hbd]
              exact s2 b o (by rw [upd_ne hbd]; exact e)
          have hfz : (upd H' T (.tup [kV k0, v0])) d = some (.frz od (.dK kvs)) := s2 d _ upd_same
          have bad : (nameV (kV k0) && valueV v0) = false → Q (.bl false) (upd (upd H' T (.tup [kV k0, v0])) d (.dK kvs)) := fun hb => by
            have e : worthsB kvs = false := by
              have : (kvs.all fun p => nameV (kV p.1) && valueV p.2) = false := by
                cases ea : (kvs.all fun p => nameV (kV p.1) && valueV p.2) with
                | false => rfl
                | true =>
                  have := List.all_eq_true.mp ea _ hm
                  rw [hb] at this
                  cases this
              show (decide (kvs.length ≤ 100) && (kvs.all fun p => nameV (kV p.1) && valueV p.2)) = false
              rw [this]
              simp
            rw [e] at q
            exact q _ sH
          refine x_g2 (SqT.of upd_same) ?_
          walk_at "go"
          obtain ⟨nk, hnk⟩ := kV_kd (K := K) (H := upd H' T (.tup [kV k0, v0])) k0
          refine ⟨_, nk, rfl, ⟨hnk, fun z hz => ?_⟩, ?_⟩
          · cases k0 with
            | inl i => cases hz
            | inr y =>
              cases hz
              exact hkz _ rfl
          walk_at "go"
          cases en : nameV (kV k0) with
          | false =>
            walk_at "go"
            exact ⟨hfz, bad (by rw [en]; rfl)⟩
          | true =>
            walk_at "go"
            refine ⟨v0, kn, rfl, (hkn.held hd).same s2, ?_⟩
            walk_at "go"
            cases ev : valueV v0 with
            | false =>
              walk_at "go"
              exact ⟨hfz, bad (by rw [en, ev]; rfl)⟩
            | true =>
              walk_at "go"
              refine ⟨_, _, rfl, s2, fun p hp => ?_⟩
              rw [take_succ_get hi] at hp
              rcases List.mem_append.mp hp with hp | hp
              · exact hall p hp
              · rw [List.mem_singleton.mp hp, en, ev]
                rfl
        · rintro σ H' ⟨v1, v2, rfl, s1, hall⟩
          have hfz : H' d = some (.frz od (.dK kvs)) := s1 d _ upd_same
          refine ⟨hfz, ?_⟩
          walk_at "go"
          have e : worthsB kvs = true := by
            rw [List.take_length] at hall
            show (decide (kvs.length ≤ 100) && _) = true
            rw [decide_eq_true (by omega), List.all_eq_true.mpr hall]
            rfl
          rw [e] at q
          refine q _ fun b o e => ?_
          by_cases hbd : b = d
          · subst hbd
            rw [hd] at e
            rw [upd_same, e]
          · rw [upd_ne hbd]
            exact s1 b o (by rw [upd_ne hbd]; exact e)
    · walk_at "go"
      refine x_isiDict hk ?_
      walk_at "go"
      cases k with
      | dict => exact absurd rfl hn
      | _ =>
        refine x_nF ?_
        walk_at "go"
        exact q
end
/-! ### a wish as an object -/
def wF (t : Addr) (e : Int) (b : Bool) : List (Str × V) := putF "coming" (.bl b) (putF "endless" (.int e) (putF "table" (.ref t) []))
theorem wF_table (t : Addr) (e : Int) (b : Bool) : (wF t e b).lookup ("table" : Str) = some (.ref t) := by
  unfold wF
  rw [lookup_putF, if_neg (by decide +kernel), lookup_putF, if_neg (by decide +kernel), lookup_putF, if_pos rfl]
theorem wF_endless (t : Addr) (e : Int) (b : Bool) : (wF t e b).lookup ("endless" : Str) = some (.int e) := by
  unfold wF
  rw [lookup_putF, if_neg (by decide +kernel), lookup_putF, if_pos rfl]
theorem wF_coming (t : Addr) (e : Int) (b : Bool) : (wF t e b).lookup ("coming" : Str) = some (.bl b) := by
  unfold wF
  rw [lookup_putF, if_pos rfl]
def comingB (l : List (Str × Int)) (e : Int) : Bool := l.all fun q => decide (e ≤ q.2)
/-- what may become a wish -/
structure GoodW (l : List (Str × Int)) (e : Int) : Prop where
  nd : (l.map (·.1)).Nodup
  len : l.length ≤ 63
  nm : ∀ q ∈ l, NameS q.1
  lo : ∀ q ∈ l, -99 ≤ q.2 ∧ q.2 ≤ 99
  elo : -99 ≤ e ∧ e ≤ 99
  side : Side e l
/-- a wish with the worths l (in any order) stands at p -/
structure WishAt (C : Addr) (H : Hp) (p : Addr) (l : List (Str × Int)) (e : Int) : Prop where
  ex : ∃ dx t l', H p = some (.ins C dx (wF t e (comingB l e))) ∧ H t = some (.dK (strK V.int l')) ∧ l'.Perm l ∧ sortedS (l'.map (·.1)) = true
theorem WishAt.same {C : Addr} {H H' : Hp} {p : Addr} {l : List (Str × Int)} {e : Int} (h : WishAt C H p l e) (s : L2.Same H H') : WishAt C H' p l e := by
  obtain ⟨dx, t, l', h1, h2, h3⟩ := h.ex
  exact ⟨dx, t, l', s _ _ h1, s _ _ h2, h3⟩
def spWishInit (C : Addr) : Sp := fun vs H Q _ => ∃ (s d dx : Addr) (e : Int) (l : List (Str × Int)), vs = [.ref s, .ref d, .int e] ∧ H s = some (.ins C dx []) ∧ H d = some (.dK (strK V.int l)) ∧ GoodW l e ∧
  ∀ H', (∀ b o, H b = some o → b ≠ s → H' b = some o) → WishAt C H' s l e → Q .non H'
def spWorths (C : Addr) : Sp := fun vs H Q _ => ∃ (s : Addr) (e : Int) (l : List (Str × Int)), vs = [.ref s] ∧ WishAt C H s l e ∧ (l.map (·.1)).Nodup ∧ l.length ≤ 1000 ∧
  ∀ H' D l', L2.Same H H' → H D = none → H' D = some (.dK (strK V.int l')) → l'.Perm l → Q (.ref D) H'
def negL (l : List (Str × Int)) : List (Str × Int) := l.map fun q => (q.1, -q.2)
def spMirrored (C : Addr) : Sp := fun vs H Q _ => ∃ (s : Addr) (e : Int) (l : List (Str × Int)), vs = [.ref s] ∧ WishAt C H s l e ∧ GoodW l e ∧
  ∀ H' p, L2.Same H H' → H p = none → WishAt C H' p (negL l) (-e) → Q (.ref p) H'
def eqWB (l1 l2 : List (Str × Int)) (e1 e2 : Int) : Bool := decide (e1 = e2)
/-- == where the worths are the same ones -/
def spWishEq (C : Addr) : Sp := fun vs H Q _ => ∃ (a b : Addr) (e1 e2 : Int) (l1 l2 : List (Str × Int)), vs = [.ref a, .ref b] ∧ WishAt C H a l1 e1 ∧ WishAt C H b l2 e2 ∧ l1.Perm l2 ∧ (l1.map (·.1)).Nodup ∧ e1 = e2 ∧ Q (.bl true) H
theorem worthsB_good {l : List (Str × Int)} {e : Int} (g : GoodW l e) : worthsB (strK V.int l) = true := by
  show (decide ((strK V.int l).length ≤ 100) && _) = true
  rw [decide_eq_true (by rw [List.length_map]; have := g.len; omega), Bool.true_and, List.all_map]
  refine List.all_eq_true.mpr fun q hq => ?_
  show (nameV (.str q.1) && valueV (.int q.2)) = true
  have h := g.lo q hq
  have h2 : valueV (.int q.2) = true := by
    show (decide _ && decide _) = true
    rw [decide_eq_true h.1, decide_eq_true h.2]
    rfl
  rw [(g.nm q hq).v, h2]
  rfl
theorem kvFine_int {K : PySem.W.Frag} {H : Hp} {l : List (Str × Int)} (h : ∀ q ∈ l, NameS q.1) : kvFine K H (strK V.int l) := fun p hp => by
  obtain ⟨q, hq, rfl⟩ := List.mem_map.mp hp
  refine ⟨fun z hz => ?_, _, .int _⟩
  cases hz
  have := (h q hq).len
  omega
/-- [e op v for v in list(d.values())] -/
theorem lc_vals {K : PySem.W.Frag} {σ : L2.St} {H : Hp} {Qd : Addr → Hp → Prop} {d : Addr} {l : List (Str × Int)} {e : Int} {g : Int → Int → Bool} {j n : Nat} (hd : Rd H d (.dK (strK V.int l))) (hl : l.length ≤ 1000) (hj : j ≠ n) (hn : n < σ.length)
    (h2 : σ[j]? = some (some (.int e))) (k : ∀ H' D, L2.Same H H' → H D = none → H' D = some (.lst ((l.map fun q => g e q.2).map V.bl)) → Qd D H') :
    rListVA (.ref d) H fun x H1 => RunL K (fun J H1 => ∀ D, H1 D = none → LcP J (gName n) tYes (tOp (rI0 fun i j => V.bl (g i j)) (tVar j) (tVar n)) [n] σ D (Qd D) H1) x H1 := by
  refine x_listv hd fun p1 hp1 => runL (SqL.of upd_same) fun D hD => ?_
  have hp1D : p1 ≠ D := ne_of_none upd_same hD
  have hD0 : H D = none := by rw [upd_ne hp1D.symm] at hD; exact hD
  have eV : (strK V.int l).map Prod.snd = l.map fun q => V.int q.2 := by rw [List.map_map]; rfl
  rw [eV]
  refine lcL (xs := l.map fun q => V.int q.2) (fun t H' => L2.Same H H' ∧ H' p1 = some (.lst (l.map fun q => V.int q.2)) ∧ H' D = some (.lst (((l.take t).map fun q => g e q.2).map V.bl))) ?_ ?_ ?_ ?_
  · exact ⟨same_upd (same_new hp1) hD0, by rw [upd_ne hp1D]; exact upd_same, upd_same⟩
  · exact fun t H' _ h => SqL.of h.2.1
  · rintro t x H' hx ⟨s1, hp, hD1⟩
    rw [List.getElem?_map] at hx
    cases hq : l[t]? with
    | none => rw [hq] at hx; cases hx
    | some q =>
      rw [hq] at hx
      have ex : V.int q.2 = x := Option.some.inj hx
      subst ex
      have hlt : t < l.length := (List.getElem?_eq_some_iff.mp hq).1
      refine x_g1 ⟨?_, x_yes1 (x_T (x_op (x_var (v := .int e) ?_ (x_var (v := .int q.2) ?_ (x_I0 ⟨_, hD1, sz_lt (by simp; omega), same_upd s1 hD0, by rw [upd_ne hp1D]; exact hp, ?_⟩)))))⟩
      · show ((σ.set n none).set n (some (.int q.2))).set n none = σ.set n none
        rw [List.set_set, List.set_set]
      · show ((σ.set n none).set n _)[j]? = _
        rw [List.getElem?_set_ne hj.symm, List.getElem?_set_ne hj.symm]
        exact h2
      · show ((σ.set n none).set n _)[n]? = _
        rw [List.getElem?_set_self (by rw [List.length_set]; exact hn)]
      · rw [upd_same, take_succ_get hq]
        simp
  · rintro H' ⟨s1, hp, hD1⟩
    rw [List.length_map, List.take_length] at hD1
    exact k H' D s1 hD0 hD1
section
variable {P : Program} {w : World} {K : PySem.W.Frag} {mg : Str → Option Value} {base : Heap} {C : Addr}
theorem ok_Wish_init {f : Addr} {fd : FuncData} (F : Fun K "__init__" "Wish.__init__" s_Wish_init f fd) (K_Wish : Cls K C) (N1 : NoAttr K C "table") (N2 : NoAttr K C "endless") (N3 : NoAttr K C "coming") (Z_list : mg "list" = none) (Z_all : mg "all" = none) (Z_sorted : mg "sorted" = none)
    (C_are_worths : Cal P w K mg base 3 "are_worths" ["thing"] (spAreWorths K)) (C_is_value : Cal P w K mg base 2 "is_value" ["thing"] (spIsValue K)) : FnOk P w K mg base CX0 4 f fd ["self", "worths", "endless"] (spWishInit C) := by
  refine F.ok sc_Wish_init (fun vs H Q E h => ?_) (fun cdv A outer s H vs Q E hr h => ?_)
  · obtain ⟨_, _, _, _, _, rfl, _⟩ := h
    rfl
  · obtain ⟨a, d, dx, e, l, rfl, ha, hd, g, k⟩ := h
    have hu := hu_of hr
    refine ⟨_, (pss_cons (ps_if (PW.pt (pw_or (pt_not (pt_val (pe_cal C_are_worths (hr.mono (by decide)) (by rfl) (pa_cons (pv 1) pa_nil)))) (pw_or1 (pt_not (pt_val (pe_cal C_is_value (hr.mono (by decide)) (by rfl) (pa_cons (pv 2) pa_nil)))))))
      (pss_one ps_never)
      pss_nil)
      (pss_cons (ps_set (i := 3) sc_Wish_init.nd rfl (Or.inl rfl) (pe_callB (cr_all rfl) (by rfl) Z_all (by decide +kernel) (pa_cons (pe_lc (own := [("value", 5)]) (g := gName 5) (tt := tYes) (by rfl) sc_Wish_init.nd (pi_list (pe_listV (by rfl) (pv 1) (by rfl) Z_list)) (blkOk_by (own := [("value", 5)]) (N := N_Wish_init) (sc := defScope s_Wish_init) (by decide +kernel)) (fun _ _ _ _ _ => (pg_name (i := 5) sc_Wish_init.nd rfl (Or.inl rfl))) (fun _ _ _ _ _ => pts_nil) (fun _ _ _ _ _ => by exact (pe_cmpR op_le (pv 2) (pv 5) (nomark _)))) pa_nil)))
      (pss_cons (ps_set (i := 4) sc_Wish_init.nd rfl (Or.inl rfl) (pe_callB (cr_all rfl) (by rfl) Z_all (by decide +kernel) (pa_cons (pe_lc (own := [("value", 5)]) (g := gName 5) (tt := tYes) (by rfl) sc_Wish_init.nd (pi_list (pe_listV (by rfl) (pv 1) (by rfl) Z_list)) (blkOk_by (own := [("value", 5)]) (N := N_Wish_init) (sc := defScope s_Wish_init) (by decide +kernel)) (fun _ _ _ _ _ => (pg_name (i := 5) sc_Wish_init.nd rfl (Or.inl rfl))) (fun _ _ _ _ _ => pts_nil) (fun _ _ _ _ _ => by exact (pe_cmpR op_ge (pv 2) (pv 5) (nomark _)))) pa_nil)))
      (pss_cons (ps_if (PW.pt (pw_and (pt_not (pt_val (pv 3))) (pw_and1 (pt_not (pt_val (pv 4))))))
      (pss_one ps_never)
      pss_nil)
      (pss_cons (ps_fld (pv 0) (pe_dc (own := [("name", 6)]) (g := gName 6) (tt := tYes) (by rfl) sc_Wish_init.nd (pi_list (pe_callB (call_sortedDA rfl) (by rfl) Z_sorted (by decide +kernel) (pa_cons (pv 1) pa_nil))) (blkOk_by (own := [("name", 6)]) (N := N_Wish_init) (sc := defScope s_Wish_init) (by decide +kernel)) (fun _ _ _ _ _ => (pg_name (i := 6) sc_Wish_init.nd rfl (Or.inl rfl))) (fun _ _ _ _ _ => pts_nil) (fun _ _ _ _ _ => by exact (pv 6)) (fun _ _ _ _ _ => by exact (pe_dget hu (pv 1) (pv 6) (fun _ _ => rfl)))) rfl)
      (pss_cons (ps_fld (pv 0) (pv 2) rfl)
      (pss_one (ps_fld (pv 0) (pv 3) rfl)))))))), ?_⟩
    walk_at "go"
    refine .inl ⟨d, _, rfl, hd, kvFine_int g.nm, fun H1 s1 => ?_⟩
    rw [worthsB_good g]
    walk_at "go"
    refine ⟨_, _, rfl, .int e, ?_⟩
    have ev : valueV (.int e) = true := by
      show (decide _ && decide _) = true
      rw [decide_eq_true g.elo.1, decide_eq_true g.elo.2]
      rfl
    rw [ev]
    walk_at "go"
    have hll : l.length ≤ 1000 := by have := g.len; omega
    have hd1 := s1 d _ hd
    refine lc_vals (j := 2) (n := 5) (e := e) (g := fun i j => decide (i ≤ j)) (.inl hd1) hll (by decide) ?hn rfl fun H2 D s2 hD hD2 => ?_
    case hn => exact (by decide : 5 < 7)
    walk_at "go"
    refine ⟨D, _, rfl, SqL.of hD2, ?_⟩
    have eb : (List.map (fun q : Str × Int => decide (e ≤ q.2)) l).all id = comingB l e := by rw [List.all_map]; rfl
    rw [eb]
    walk_at "go"
    have hd2 := s2 d _ hd1
    refine lc_vals (j := 2) (n := 5) (e := e) (g := fun i j => decide (j ≤ i)) (.inl hd2) hll (by decide) ?hn rfl fun H3 D3 s3 hD3 hD33 => ?_
    case hn => exact (by decide : 5 < 7)
    walk_at "go"
    refine ⟨D3, _, rfl, SqL.of hD33, ?_⟩
    walk_at "go"
    have hd3 := s3 d _ hd2
    have s13 : L2.Same H H3 := (s1.trans s2).trans s3
    refine x_ite (fun h1 => ?_) (fun h1 => ?_)
    focus
      walk_at "go"
      refine x_ite (fun h2 => ?_) (fun h2 => ?_)
    focus
      exfalso
      rcases g.side with h | h
      · have : comingB l e = true := List.all_eq_true.mpr fun q hq => decide_eq_true (h q hq)
        rw [this] at h1
        cases h1
      · have : (List.map (fun q : Str × Int => decide (q.2 ≤ e)) l).all id = true := by
          rw [List.all_map]
          exact List.all_eq_true.mpr fun q hq => decide_eq_true (h q hq)
        rw [this] at h2
        cases h2
    all_goals walk_at "go"
    all_goals
      have ek : (strK V.int l).map (·.1) = (l.map (·.1)).map Sum.inr := by rw [List.map_map, List.map_map]; rfl
      refine ⟨d, _, l.map (·.1), rfl, .inl hd3, ek, by rw [List.length_map]; have := g.len; omega, fun ys q hperm hsort hq => runL (SqL.of upd_same) fun D4 hD4 => ?_⟩
      have hq4 : q ≠ D4 := ne_of_none upd_same hD4
      have hD40 : H3 D4 = none := by rw [upd_ne hq4.symm] at hD4; exact hD4
      have ynd : ys.Nodup := (hperm.nodup_iff).mpr g.nd
      have ylen : ys.length = l.length := by rw [hperm.length_eq, List.length_map]
      refine dcL (xs := ys.map V.str) (fun t H' => L2.Same H3 H' ∧ H' q = some (.lst (ys.map V.str)) ∧ H' D4 = some (.dK (strK V.int ((ys.take t).map fun z => (z, (l.lookup z).getD 0))))) ?_ ?_ ?_ ?_
      · exact ⟨same_upd (same_new hq) hD40, by rw [upd_ne hq4]; exact upd_same, upd_same⟩
      · exact fun t H' _ h => SqL.of h.2.1
      · rintro t x H' hx ⟨s4, hq1, hD41⟩
        rw [List.getElem?_map] at hx
        cases hz : ys[t]? with
        | none => rw [hz] at hx; cases hx
        | some z =>
          rw [hz] at hx
          have ex : V.str z = x := Option.some.inj hx
          subst ex
          have hlt : t < ys.length := (List.getElem?_eq_some_iff.mp hz).1
          have hzm : z ∈ l.map (·.1) := hperm.mem_iff.mp (List.mem_of_getElem? hz)
          obtain ⟨xz, hxz⟩ := lookup_isSome hzm
          walk_at "go"
          refine ⟨rfl, ?_⟩
          walk_at "go"
          refine x_getS (kvs := strK V.int l) (.inl (s4 d _ hd3)) (v := .int xz) (by rw [strK_look, hxz]; rfl) ?_
          refine ⟨_, Sum.inr z, rfl, hD41, sz_lt (by simp; omega), same_upd s4 hD40, by rw [upd_ne hq4]; exact hq1, ?_⟩
          rw [upd_same, strK_put, putL_new, take_succ_get hz, List.map_append]
          · simp [hxz]
          · rw [List.map_map]
            intro hm
            obtain ⟨z', hz', e'⟩ := List.mem_map.mp hm
            have e2 : z' = z := e'
            subst e2
            obtain ⟨i, hi, he⟩ := List.getElem_of_mem hz'
            have hi2 : i < t := by simp at hi; omega
            have h5 : ys[i]? = some z' := by
              rw [List.getElem_take] at he
              rw [List.getElem?_eq_getElem (by omega), he]
            have := L2.nd_ix ynd h5 hz
            omega
      · rintro H4 ⟨s4, hq1, hD41⟩
        rw [List.length_map, List.take_length] at hD41
        have s14 : L2.Same H H4 := s13.trans s4
        have aD : a ≠ D4 := fun z => by rw [z] at ha; rw [s13 _ _ ha] at hD40; cases hD40
        walk_at "go"
        refine x_sf K_Wish N1 (s14 _ _ ha) (by decide) ?_
        walk_at "go"
        refine x_sf K_Wish N2 upd_same (Nat.lt_of_le_of_lt (length_putF _ _ _) (by show 0 + 1 < 1000; decide)) ?_
        walk_at "go"
        refine x_sf K_Wish N3 upd_same (Nat.lt_of_le_of_lt (length_putF _ _ _) (Nat.lt_of_le_of_lt (Nat.succ_le_succ (length_putF _ _ _)) (by show 0 + 1 + 1 < 1000; decide))) ?_
        refine k _ (fun b o e n => ?_) ⟨⟨dx, D4, ys.map fun z => (z, (l.lookup z).getD 0), ?_, ?_, table_perm g.nd hperm 0, ?_⟩⟩
        · rw [upd_ne n, upd_ne n, upd_ne n]
          exact s14 b o e
        · rw [upd_same]
          rfl
        · rw [upd_ne aD.symm, upd_ne aD.symm, upd_ne aD.symm]
          exact hD41
        · rw [List.map_map]
          have : ((fun x : Str × Int => x.1) ∘ fun z => (z, (l.lookup z).getD 0)) = id := rfl
          rw [this, List.map_id]
          exact hsort
theorem ok_Wish_worths {f : Addr} {fd : FuncData} (F : Fun K "worths" "Wish.worths" s_Wish_worths f fd) (K_Wish : Cls K C) (N1 : NoAttr K C "table") : FnOk P w K mg base CX0 1 f fd ["self"] (spWorths C) := by
  refine F.ok sc_Wish_worths (fun vs H Q E h => ?_) (fun cdv A outer s H vs Q E hr h => ?_)
  · obtain ⟨_, _, _, rfl, _⟩ := h
    rfl
  · obtain ⟨a, e, l, rfl, hW, hnd, hlen, k⟩ := h
    obtain ⟨dx, t, l', ha, ht, hp, _⟩ := hW.ex
    have hu := hu_of hr
    have hnd' : (l'.map (·.1)).Nodup := (List.Perm.nodup_iff (hp.map _)).mpr hnd
    have hat : a ≠ t := ne_of ha ht (by intro z; cases z)
    refine ⟨_, (pss_one (ps_ret (pe_lock (pe_dc (own := [("name", 1)]) (g := gName 1) (tt := tYes) (by rfl) sc_Wish_worths.nd (pi_keys (pe_fld (pv 0) rfl)) (blkOk_by (own := [("name", 1)]) (N := N_Wish_worths) (sc := defScope s_Wish_worths) (by decide +kernel)) (fun _ _ _ _ _ => (pg_name (i := 1) sc_Wish_worths.nd rfl (Or.inl rfl))) (fun _ _ _ _ _ => pts_nil) (fun _ _ _ _ _ => by exact (pv 1)) (fun _ _ _ _ _ => by exact (pe_dget hu (pe_fldK (K := K) (pv 0) (by rfl)) (pv 1) (fun _ _ => rfl))))))), ?_⟩
    walk_at "go"
    refine x_lockE ht trivial fun od => ?_
    have ha1 : (upd H t (.frz od (.dK (strK V.int l')))) a = some (.ins C dx (wF t e (comingB l e))) := by rw [upd_ne hat]; exact ha
    walk_at "go"
    refine x_fld K_Wish N1 ha1 (wF_table _ _ _) ?_
    refine runK upd_same ?_
    intro D hD
    have hDt : D ≠ t := fun z => by rw [z, upd_same] at hD; cases hD
    have hD0 : H D = none := by rw [upd_ne hDt] at hD; exact hD
    refine dcK (kvs := strK V.int l') (fun i H' => L2.Same (upd H t (.frz od (.dK (strK V.int l')))) H' ∧ H' D = some (.dK (strK V.int (l'.take i)))) ?_ ?_ ?_ ?_
    · exact ⟨same_new hD, upd_same⟩
    · exact fun i H' _ h => h.1 t _ upd_same
    · rintro i k0 v0 H' hi ⟨s1, hD1⟩
      obtain ⟨z, x, rfl, rfl, hlx⟩ := strK_at hi
      have hlt : i < l'.length := (List.getElem?_eq_some_iff.mp hlx).1
      walk_at "go"
      refine ⟨rfl, ?_⟩
      walk_at "go"
      refine x_fld K_Wish N1 (s1 _ _ ha1) (wF_table _ _ _) ?_
      walk_at "go"
      refine x_getS (kvs := strK V.int l') (.inr ⟨od, s1 t _ upd_same⟩) (strK_val hnd' hlx) ?_
      refine ⟨_, Sum.inr z, rfl, hD1, sz_lt (by have := hp.length_eq; simp; omega), same_upd s1 hD, ?_⟩
      rw [upd_same, strK_put, putL_new, take_succ_get hlx]
      intro hm
      obtain ⟨p', hp', e'⟩ := List.mem_map.mp hm
      obtain ⟨j, hj, he⟩ := List.getElem_of_mem hp'
      have hj2 : j < i := by simp at hj; omega
      have h5 : (l'.map (·.1))[j]? = some z := by
        rw [List.getElem_take] at he
        rw [List.getElem?_map, List.getElem?_eq_getElem (by omega), he]
        exact congrArg some e'
      have h6 : (l'.map (·.1))[i]? = some z := by rw [List.getElem?_map, hlx]; rfl
      have := L2.nd_ix hnd' h5 h6
      omega
    · rintro H4 ⟨s1, hD1⟩
      have eL : (strK V.int l').length = l'.length := List.length_map ..
      rw [eL, List.take_length] at hD1
      refine ⟨s1 t _ upd_same, ?_⟩
      refine k _ D l' (fun b o e => ?_) hD0 (by rw [upd_ne hDt]; exact hD1) hp
      by_cases hbt : b = t
      · subst hbt
        rw [ht] at e
        rw [upd_same, e]
      · rw [upd_ne hbt]
        exact s1 b o (by rw [upd_ne hbt]; exact e)
end
theorem negL_keys (l : List (Str × Int)) : (negL l).map (·.1) = l.map (·.1) := by
  unfold negL
  rw [List.map_map]
  rfl
theorem GoodW.neg {l : List (Str × Int)} {e : Int} (g : GoodW l e) : GoodW (negL l) (-e) where
  nd := by rw [negL_keys]; exact g.nd
  len := by unfold negL; rw [List.length_map]; exact g.len
  nm := fun q hq => by obtain ⟨p, hp, rfl⟩ := List.mem_map.mp hq; exact g.nm p hp
  lo := fun q hq => by obtain ⟨p, hp, rfl⟩ := List.mem_map.mp hq; have := g.lo p hp; exact ⟨by show -99 ≤ -p.2; omega, by show -p.2 ≤ 99; omega⟩
  elo := by have := g.elo; omega
  side := by
    rcases g.side with h | h
    · exact .inr fun q hq => by obtain ⟨p, hp, rfl⟩ := List.mem_map.mp hq; have := h p hp; show -p.2 ≤ -e; omega
    · exact .inl fun q hq => by obtain ⟨p, hp, rfl⟩ := List.mem_map.mp hq; have := h p hp; show -e ≤ -p.2; omega
theorem GoodW.perm {l l' : List (Str × Int)} {e : Int} (g : GoodW l e) (hp : l'.Perm l) : GoodW l' e where
  nd := (List.Perm.nodup_iff (hp.map _)).mpr g.nd
  len := by rw [hp.length_eq]; exact g.len
  nm := fun q hq => g.nm q (hp.mem_iff.mp hq)
  lo := fun q hq => g.lo q (hp.mem_iff.mp hq)
  elo := g.elo
  side := by
    rcases g.side with h | h
    · exact .inl fun q hq => h q (hp.mem_iff.mp hq)
    · exact .inr fun q hq => h q (hp.mem_iff.mp hq)
theorem all_perm {α : Type} {l l' : List α} (hp : l'.Perm l) (f : α → Bool) : l'.all f = l.all f := by
  cases e : l.all f with
  | true => exact List.all_eq_true.mpr fun x hx => List.all_eq_true.mp e x (hp.mem_iff.mp hx)
  | false =>
    cases e2 : l'.all f with
    | false => rfl
    | true =>
      have : l.all f = true := List.all_eq_true.mpr fun x hx => List.all_eq_true.mp e2 x (hp.mem_iff.mpr hx)
      rw [e] at this
      cases this
theorem WishAt.perm {C : Addr} {H : Hp} {p : Addr} {l l' : List (Str × Int)} {e : Int} (h : WishAt C H p l e) (hp : l.Perm l') : WishAt C H p l' e := by
  obtain ⟨dx, t, l2, h1, h2, h3, h4⟩ := h.ex
  refine ⟨⟨dx, t, l2, ?_, h2, h3.trans hp, h4⟩⟩
  have : comingB l' e = comingB l e := (all_perm hp _).symm
  rw [this]
  exact h1
theorem same_made {H H1 H' : Hp} {x dx C : Addr} (s : L2.Same H H1) (nx : H1 x = none) (nd : H1 dx = none) (k : ∀ b o, (upd (upd H1 dx (.own x)) x (.ins C dx [])) b = some o → b ≠ x → H' b = some o) : L2.Same H H' := fun b o e => by
  have e1 := s b o e
  exact k b o (by rw [upd_ne (ne_of_none e1 nx), upd_ne (ne_of_none e1 nd)]; exact e1) (ne_of_none e1 nx)
section
variable {P : Program} {w : World} {K : PySem.W.Frag} {mg : Str → Option Value} {base : Heap} {C : Addr}
theorem ok_mirrored {f : Addr} {fd : FuncData} (F : Fun K "mirrored" "mirrored" s_mirrored f fd) (K_Wish : Cls K C) (N1 : NoAttr K C "table") (N2 : NoAttr K C "endless")
    (M_Wish : Mkc P w K mg base C 4 "Wish" ["self", "worths", "endless"] (spWishInit C)) : FnOk P w K mg base CX0 6 f fd ["wish"] (spMirrored C) := by
  refine F.ok sc_mirrored (fun vs H Q E h => ?_) (fun cdv A outer s H vs Q E hr h => ?_)
  · obtain ⟨_, _, _, rfl, _⟩ := h
    rfl
  · obtain ⟨a, e, l, rfl, hW, g, k⟩ := h
    obtain ⟨dx, t, l', ha, ht, hp, _⟩ := id hW.ex
    have hu := hu_of hr
    have g' := g.perm hp
    have hat : a ≠ t := ne_of ha ht (by intro z; cases z)
    refine ⟨_, (pss_one (ps_ret (pe_mk M_Wish (hr.mono (by decide)) (by rfl) (pa_cons (pe_lock (pe_dc (own := [("name", 1), ("value", 2)]) (g := gTup K 2 (gCons (gName 1) (gCons (gName 2) gNil))) (tt := tYes) (by rfl) sc_mirrored.nd (pi_items (pe_fld (pv 0) rfl)) (blkOk_by (own := [("name", 1), ("value", 2)]) (N := N_mirrored) (sc := defScope s_mirrored) (by decide +kernel)) (fun _ _ _ _ _ => by exact (pg_tupK (K := K) rfl (pgs_cons (pg_name (i := 1) sc_mirrored.nd rfl (Or.inl rfl)) (pgs_cons (pg_name (i := 2) sc_mirrored.nd rfl (Or.inl rfl)) pgs_nil)))) (fun _ _ _ _ _ => pts_nil) (fun _ _ _ _ _ => by exact (pv 1)) (fun _ _ _ _ _ => by exact (pe_un un_neg (pv 2))))) (pa_cons (pe_un un_neg (pe_fld (pv 0) rfl)) pa_nil))))), ?_⟩
    walk_at "go"
    refine x_lockE ht trivial fun od => ?_
    have ha1 : (upd H t (.frz od (.dK (strK V.int l')))) a = some (.ins C dx (wF t e (comingB l e))) := by rw [upd_ne hat]; exact ha
    walk_at "go"
    refine x_fld K_Wish N1 ha1 (wF_table _ _ _) ?_
    refine runI upd_same ?_
    intro D hD
    have hDt : D ≠ t := fun z => by rw [z, upd_same] at hD; cases hD
    have hD0 : H D = none := by rw [upd_ne hDt] at hD; exact hD
    refine dcI (kvs := strK V.int l') (fun i H' => L2.Same (upd H t (.frz od (.dK (strK V.int l')))) H' ∧ H' D = some (.dK (strK V.int (negL (l'.take i))))) ?_ ?_ ?_ ?_
    · exact ⟨same_new hD, upd_same⟩
    · exact fun i H' _ h => h.1 t _ upd_same
    · rintro i k0 v0 H' T hi ⟨s1, hD1⟩ hT
      obtain ⟨z, x, rfl, rfl, hlx⟩ := strK_at hi
      have hlt : i < l'.length := (List.getElem?_eq_some_iff.mp hlx).1
      have hTD : D ≠ T := fun q => by rw [q, hT] at hD1; cases hD1
      refine x_g2 (SqT.of upd_same) ?_
      refine ⟨rfl, ?_⟩
      walk_at "go"
      refine ⟨_, Sum.inr z, rfl, (by rw [upd_ne hTD]; exact hD1), sz_lt (by have := g'.len; unfold negL; simp; omega), same_upd (same_upd s1 (s1.free hT)) hD, ?_⟩
      rw [upd_same, strK_put, putL_new, take_succ_get hlx]
      · unfold negL
        simp
      · rw [negL_keys]
        intro hm
        obtain ⟨p', hp', e'⟩ := List.mem_map.mp hm
        obtain ⟨j, hj, he⟩ := List.getElem_of_mem hp'
        have hj2 : j < i := by simp at hj; omega
        have h5 : (l'.map (·.1))[j]? = some z := by
          rw [List.getElem_take] at he
          rw [List.getElem?_map, List.getElem?_eq_getElem (by omega), he]
          exact congrArg some e'
        have h6 : (l'.map (·.1))[i]? = some z := by rw [List.getElem?_map, hlx]; rfl
        have := L2.nd_ix g'.nd h5 h6
        omega
    · rintro H4 ⟨s1, hD1⟩
      have eL : (strK V.int l').length = l'.length := List.length_map ..
      rw [eL, List.take_length] at hD1
      refine ⟨s1 t _ upd_same, ?_⟩
      have sH : L2.Same H (upd H4 t (.dK (strK V.int l'))) := fun b o e => by
        by_cases hbt : b = t
        · subst hbt
          rw [ht] at e
          rw [upd_same, e]
        · rw [upd_ne hbt]
          exact s1 b o (by rw [upd_ne hbt]; exact e)
      have hD2 : (upd H4 t (.dK (strK V.int l'))) D = some (.dK (strK V.int (negL l'))) := by rw [upd_ne hDt]; exact hD1
      generalize upd H4 t (.dK (strK V.int l')) = H5 at sH hD2 ⊢
      walk_at "go"
      refine x_fld K_Wish N2 (sH _ _ ha) (wF_endless _ _ _) ?_
      walk_at "go"
      intro x dy nx ny nex
      refine ⟨x, D, dy, -e, negL l', rfl, upd_same, ?_, g'.neg, fun H6 kp hW6 => ⟨rfl, ?_⟩⟩
      · rw [upd_ne (ne_of_none hD2 nx), upd_ne (ne_of_none hD2 ny)]
        exact hD2
      refine k H6 x (same_made sH nx ny kp) (sH.free nx) (hW6.perm ?_)
      exact hp.map _
theorem ok_Wish_eq {f : Addr} {fd : FuncData} (F : Fun K "__eq__" "Wish.__eq__" s_Wish_eq f fd) (K_Wish : Cls K C) (I_Wish : Isc K C) (kw : PySem.W.kitOne K (.ref C) (.ref C) = some true) (G_Wish : mg "Wish" = some (.ref C)) (N1 : NoAttr K C "table") (N2 : NoAttr K C "endless") (Z_isinstance : mg "isinstance" = none) :
    FnOk P w K mg base CX0 1 f fd ["self", "other"] (spWishEq C) := by
  refine F.ok sc_Wish_eq (fun vs H Q E h => ?_) (fun cdv A outer s H vs Q E hr h => ?_)
  · obtain ⟨_, _, _, _, _, _, rfl, _⟩ := h
    rfl
  · obtain ⟨a, b, e1, e2, l1, l2, rfl, hA, hB, hp, hnd, rfl, q⟩ := h
    obtain ⟨dx, t, m1, ha, ht, hp1, _⟩ := id hA.ex
    obtain ⟨dy, u, m2, hb, hu2, hp2, _⟩ := id hB.ex
    refine ⟨_, (pss_one (ps_ret (pe_and (pe_callB call_isi (by rfl) Z_isinstance (by decide +kernel) (pa_cons (pv 1) (pa_cons (pe_glob (v := .ref _) (by rfl) G_Wish rfl) pa_nil))) (pe_and (pe_cmpR op_eq (pe_fld (pv 0) rfl) (pe_fld (pv 1) rfl) (nomark _)) (pe_one (pe_cmpR (op_eq_dictA hr.units0) (pe_fld (pv 0) rfl) (pe_fld (pv 1) rfl) (nomark _))))))), ?_⟩
    walk_at "go"
    refine x_isiOwn I_Wish hb kw ?_
    walk_at "go"
    refine x_fld K_Wish N2 ha (wF_endless _ _ _) ?_
    walk_at "go"
    refine x_fld K_Wish N2 hb (wF_endless _ _ _) ?_
    walk_at "go"
    refine x_yes rfl ?_
    walk_at "go"
    refine x_fld K_Wish N1 ha (wF_table _ _ _) ?_
    walk_at "go"
    refine x_fld K_Wish N1 hb (wF_table _ _ _) ?_
    have hm : m1.Perm m2 := hp1.trans (hp.trans hp2.symm)
    have nd1 : (m1.map (·.1)).Nodup := (List.Perm.nodup_iff (hp1.map _)).mpr hnd
    have nd2 : (m2.map (·.1)).Nodup := (List.Perm.nodup_iff (hm.symm.map _)).mpr nd1
    refine ⟨t, u, _, _, rfl, rfl, ht, hu2, by rw [List.length_map, List.length_map, hm.length_eq], fun p hp' => ?_, q⟩
    obtain ⟨x, hx, rfl⟩ := List.mem_map.mp hp'
    refine ⟨?_, rfl⟩
    rw [strK_look, lookup_of nd2 (z := x.1) (x := x.2) (hm.mem_iff.mp hx)]
    rfl
end
def spLaw (K : PySem.W.Frag) : Sp := fun vs H Q _ => ∃ (a : Addr) (ns : List Int), vs = [.ref a] ∧ SqL K H a (intsV ns) ∧ ns.length ≤ 63 ∧ ∀ H', Q (.bl true) H'
section
variable {P : Program} {w : World} {K : PySem.W.Frag} {mg : Str → Option Value} {base : Heap} {C : Addr}
theorem ok_law {f : Addr} {fd : FuncData} (F : Fun K "law" "law" s_law f fd) (K_Wish : Cls K C) (I_Wish : Isc K C) (kw : PySem.W.kitOne K (.ref C) (.ref C) = some true) (G_Wish : mg "Wish" = some (.ref C)) (N1 : NoAttr K C "table") (N2 : NoAttr K C "endless") (N3 : NoAttr K C "coming")
    (Z_isinstance : mg "isinstance" = none) (Z_dict : mg "dict" = none) (Z_bool : mg "bool" = none) (Z_len : mg "len" = none) (Z_all : mg "all" = none) (Z_list : mg "list" = none)
    (C_pool : Cal P w K mg base 1 "_law_pool" ["_law_script"] (spPool K)) (C_draw : Cal P w K mg base 1 "_law_draw" ["_law_pool_here", "_law_many"] spDraw) (C_words : Cal P w K mg base 3 "_law_words" ["_law_pool_here", "_law_many"] spWords)
    (C_endless : Cal P w K mg base 2 "_law_endless" ["_law_pool_here", "_law_wanted"] spEndless) (C_mirrored : Cal P w K mg base 6 "mirrored" ["wish"] (spMirrored C))
    (M_Wish : Mkc P w K mg base C 4 "Wish" ["self", "worths", "endless"] (spWishInit C)) (P_Wish_worths : Prp P w K mg base C 1 "worths" (spWorths C)) (T_Wish_eq : Met P w K mg base C 1 "__eq__" ["self", "other"] (spWishEq C)) :
    FnOk P w K mg base CX0 8 f fd ["_law_script"] (spLaw K) := by
  refine F.ok sc_law (fun vs H Q E h => ?_) (fun cdv A outer s H vs Q E hr h => ?_)
  · obtain ⟨_, _, rfl, _⟩ := h
    rfl
  · obtain ⟨a, ns, rfl, hS, hlen, k⟩ := h
    have hu := hu_of hr
    refine ⟨_, (pss_cons (ps_set (i := 1) sc_law.nd rfl (Or.inl rfl) (pe_cal C_pool (hr.mono (by decide)) (by rfl) (pa_cons (pv 0) pa_nil)))
      (pss_cons (ps_set (i := 2) sc_law.nd rfl (Or.inl rfl) (pe_cmpR op_eq (pe_cal C_draw (hr.mono (by decide)) (by rfl) (pa_cons (pv 1) (pa_cons pe_int pa_nil))) pe_int (nomark _)))
      (pss_cons (ps_set (i := 3) sc_law.nd rfl (Or.inl rfl) (pe_ix ix_list (pe_lst (pa_cons pe_int (pa_cons pe_int (pa_cons pe_int (pa_cons pe_int pa_nil))))) (pe_cal C_draw (hr.mono (by decide)) (by rfl) (pa_cons (pv 1) (pa_cons pe_int pa_nil))) (fun _ _ => rfl)))
      (pss_cons (ps_set (i := 4) sc_law.nd rfl (Or.inr rfl) pe_dnewK)
      (pss_cons (ps_for PassesOwn.never rfl (pi_list (pe_cal C_words (hr.mono (by decide)) (by rfl) (pa_cons (pv 1) (pa_cons (pe_cal C_draw (hr.mono (by decide)) (by rfl) (pa_cons (pv 1) (pa_cons pe_int pa_nil))) pa_nil)))) (pg_name (i := 5) sc_law.nd rfl (Or.inl rfl))
      (pss_cons (ps_dput hu (pv 4) (pv 5) (pe_op op_sub (pe_cal C_draw (hr.mono (by decide)) (by rfl) (pa_cons (pv 1) (pa_cons (pe_op op_add (pe_op op_mulA pe_int (pv 3)) pe_int) pa_nil))) (pv 3)) rfl)
      (pss_one (ps_if (pt_val (pv 2))
      (pss_one (ps_dput hu (pv 4) (pv 5) (pv 3) rfl))
      pss_nil))))
      (pss_cons (ps_set (i := 6) sc_law.nd rfl (Or.inr rfl) (pe_cal C_endless (hr.mono (by decide)) (by rfl) (pa_cons (pv 1) (pa_cons (pv 4) pa_nil))))
      (pss_cons (ps_if (PW.pt (pw_and (pt_val (pv 2)) (pw_and1 (pt_cmpR op_eq (pe_cal C_draw (hr.mono (by decide)) (by rfl) (pa_cons (pv 1) (pa_cons pe_int pa_nil))) pe_int (nomark _)))))
      (pss_one (ps_set (i := 6) sc_law.nd rfl (Or.inr rfl) (pv 3)))
      pss_nil)
      (pss_cons (ps_set (i := 7) sc_law.nd rfl (Or.inl rfl) (pe_mk M_Wish (hr.mono (by decide)) (by rfl) (pa_cons (pe_callTy call_dictA (by rfl) Z_dict (by decide +kernel) (pa_cons (pv 4) pa_nil)) (pa_cons (pv 6) pa_nil))))
      (pss_cons (ps_set (i := 8) sc_law.nd rfl (Or.inl rfl) (pe_cal C_mirrored (hr.mono (by decide)) (by rfl) (pa_cons (pv 7) pa_nil)))
      (pss_cons (ps_if (PW.pt (pw_or (pt_not (pt_val (pe_callB call_isi (by rfl) Z_isinstance (by decide +kernel) (pa_cons (pv 8) (pa_cons (pe_glob (v := .ref _) (by rfl) G_Wish rfl) pa_nil))))) (pw_or (pt_cmpR op_ne (pe_fld (pv 8) rfl) (pe_un un_neg (pv 6)) (nomark _)) (pw_or1 (pt_not (pt_val (pe_callB call_isi (by rfl) Z_isinstance (by decide +kernel) (pa_cons (pe_fld (pv 8) rfl) (pa_cons (pe_bltn (v := .ty "bool") (by rfl) Z_bool (by decide +kernel) rfl) pa_nil)))))))))
      (pss_one (ps_ret pe_bl))
      pss_nil)
      (pss_cons (ps_set (i := 9) sc_law.nd rfl (Or.inl rfl) (pe_prp P_Wish_worths K_Wish (hr.mono (by decide)) (pv 8)))
      (pss_cons (ps_if (pt_cmpR op_ne (pe_callB call_lenDA (by rfl) Z_len (by decide +kernel) (pa_cons (pv 9) pa_nil)) (pe_callB call_lenDA (by rfl) Z_len (by decide +kernel) (pa_cons (pv 4) pa_nil)) (nomark _))
      (pss_one (ps_ret pe_bl))
      pss_nil)
      (pss_cons (ps_lock (ps_for PassesOwn.never rfl (pi_keys (pv 4)) (pg_name (i := 5) sc_law.nd rfl (Or.inl rfl))
      (pss_one (ps_if (PW.pt (pw_or (pt_cmp (pc_dnotin hu (pv 5) (pv 9))) (pw_or1 (pt_cmpR op_ne (pe_dget hu (pv 9) (pv 5) (fun _ _ => rfl)) (pe_un un_neg (pe_dget hu (pv 4) (pv 5) (fun _ _ => rfl))) (nomark _)))))
      (pss_one (ps_ret pe_bl))
      pss_nil))))
      (pss_cons (ps_if (pt_cmpR op_ne (pe_fld (pv 8) rfl) (pe_callB (cr_all rfl) (by rfl) Z_all (by decide +kernel) (pa_cons (pe_lock (pe_lc (own := [("_law_name", 5)]) (g := gName 5) (tt := tYes) (by rfl) sc_law.nd (pi_keys (pv 4)) (blkOk_by (own := [("_law_name", 5)]) (N := N_law) (sc := defScope s_law) (by decide +kernel)) (fun _ _ _ _ _ => (pg_name (i := 5) sc_law.nd rfl (Or.inl rfl))) (fun _ _ _ _ _ => pts_nil) (fun _ _ _ _ _ => by exact (pe_cmpR op_ge (pv 6) (pe_dget hu (pv 4) (pv 5) (fun _ _ => rfl)) (nomark _))))) pa_nil)) (nomark _))
      (pss_one (ps_ret pe_bl))
      pss_nil)
      (pss_cons (ps_set (i := 10) sc_law.nd rfl (Or.inl rfl) pe_dnewK)
      (pss_cons (ps_for PassesOwn.never rfl (pi_list (pe_revL (pe_callTy (call_list_dK rfl) (by rfl) Z_list (by decide +kernel) (pa_cons (pv 4) pa_nil)))) (pg_name (i := 5) sc_law.nd rfl (Or.inl rfl))
      (pss_one (ps_dput hu (pv 10) (pv 5) (pe_dget hu (pv 4) (pv 5) (fun _ _ => rfl)) rfl)))
      (pss_cons (ps_if (PW.pt (pw_or (pt_not (pt_cmpR (op_eqOwn T_Wish_eq (hr.mono (by decide))) (pe_cal C_mirrored (hr.mono (by decide)) (by rfl) (pa_cons (pv 8) pa_nil)) (pe_mk M_Wish (hr.mono (by decide)) (by rfl) (pa_cons (pv 10) (pa_cons (pv 6) pa_nil))) (nomark _))) (pw_or1 (pt_not (pt_cmpR (op_eqOwn T_Wish_eq (hr.mono (by decide))) (pv 7) (pe_cal C_mirrored (hr.mono (by decide)) (by rfl) (pa_cons (pv 8) pa_nil)) (nomark _))))))
      (pss_one (ps_ret pe_bl))
      pss_nil)
      (pss_one (ps_ret (pe_and (pe_cmpR (op_eq_dictA hr.units0) (pe_prp P_Wish_worths K_Wish (hr.mono (by decide)) (pv 7)) (pv 4) (nomark _)) (pe_one (pe_cmpR op_eq (pe_fld (pv 7) rfl) (pv 6) (nomark _))))))))))))))))))))))), ?_⟩
    walk_at "go"
    refine ⟨a, ns, rfl, hS, hlen, fun H1 p s1 hp0 hp1 => ?_⟩
    walk_at "go"
    refine ⟨p, 4, rfl, hp1, by decide, by decide, fun H2 al b2 hp2 al0 al1 => ?_⟩
    walk_at "go"
    generalize decide (al = 0) = alike
    refine ⟨sz_le (by simp), fun lm hlm => ?_⟩
    have hp3 := hp2.new (o := .lst [.int 1, .int 3, .int 9, .int 99]) hlm
    walk_at "go"
    refine ⟨p, 4, rfl, hp3, by decide, by decide, fun H3 j b3 hp4 j0 j1 => ?_⟩
    have hlm3 : H3 lm = some (.lst [.int 1, .int 3, .int 9, .int 99]) := b3 lm _ upd_same (hp2.ne hlm)
    obtain ⟨rc, hrc, rc0, rc1⟩ : ∃ g : Int, [V.int 1, V.int 3, V.int 9, V.int 99][j.toNat]? = some (.int g) ∧ 0 < g ∧ g ≤ 99 := by
      have h4 : j = 0 ∨ j = 1 ∨ j = 2 ∨ j = 3 := by omega
      rcases h4 with rfl | rfl | rfl | rfl
      · exact ⟨1, rfl, by omega, by omega⟩
      · exact ⟨3, rfl, by omega, by omega⟩
      · exact ⟨9, rfl, by omega, by omega⟩
      · exact ⟨99, rfl, by omega, by omega⟩
    refine x_ixl j.toNat (SqL.of hlm3) (by omega) hrc ?_
    walk_at "go"
    intro d hd
    have hp5 := hp4.new (o := .dK []) hd
    have npd : d ≠ p := hp4.ne hd
    walk_at "go"
    refine ⟨p, 9, rfl, hp5, by decide, by decide, fun H4 m b4 hp6 m0 m1 => ?_⟩
    have hd4 : H4 d = some (.dK []) := b4 d _ upd_same npd
    walk_at "go"
    refine ⟨p, m, rfl, hp6, m0, by omega, fun H5 q ws b5 hp7 hq hq5 wl wn wd => ?_⟩
    have hd5 : H5 d = some (.dK []) := b5 d _ hd4 npd
    have npq : q ≠ p := hp6.ne hq
    have ndq : d ≠ q := ne_of_none hd4 hq
    -- the worths
    refine lpL (xs := strsV ws) (fun i σ H' => ∃ v l, σ = [some (.ref a), some (.ref p), some (.bl alike), some (.int rc), some (.ref d), v, none, none, none, none, none] ∧ PoolAt H' p ∧ H' q = some (.lst (strsV ws)) ∧ H' d = some (.dK (strK V.int l)) ∧
      (l.map (·.1)).Nodup ∧ l.length ≤ i ∧ (∀ x ∈ l, NameS x.1) ∧ (∀ x ∈ l, -99 ≤ x.2 ∧ x.2 ≤ 99) ∧ (alike = true → ∀ x ∈ l, x.2 = rc)) (SqL.of hq5) ?_ ?_ ?_ ?_
    · exact ⟨none, [], rfl, hp7, hq5, hd5, List.nodup_nil, Nat.le_refl _, by simp, by simp, by simp⟩
    · rintro i σ H' _ ⟨v, l, _, _, h, _⟩
      exact SqL.of h
    · rintro i x σ H' hx ⟨v, l, rfl, g1, g2, g3, g4, g5, g6, g7, g8⟩
      rw [List.getElem?_map] at hx
      cases hz : ws[i]? with
      | none => rw [hz] at hx; cases hx
      | some z =>
        rw [hz] at hx
        have ex : V.str z = x := Option.some.inj hx
        subst ex
        have hi : i < ws.length := (List.getElem?_eq_some_iff.mp hz).1
        have hzn : NameS z := wn z (List.mem_of_getElem? hz)
        walk_at "go"
        refine ⟨p, 2 * rc + 1, rfl, g1, by omega, by omega, fun H6 y b6 g1' y0 y1 => ?_⟩
        walk_at "go"
        refine x_putL (b6 d _ g3 npd) (by omega) rfl ?_
        have key : ∀ (l' : List (Str × Int)) (yy : Int), -99 ≤ yy → yy ≤ 99 → (l'.map (·.1)).Nodup → (∀ x ∈ l', NameS x.1) → (∀ x ∈ l', -99 ≤ x.2 ∧ x.2 ≤ 99) →
            ((putL l' z yy).map (·.1)).Nodup ∧ (∀ x ∈ putL l' z yy, NameS x.1) ∧ (∀ x ∈ putL l' z yy, -99 ≤ x.2 ∧ x.2 ≤ 99) := fun l' yy y2 y3 a1 a2 a3 =>
          ⟨putL_nd _ a1, fun x hx => by
            rcases putL_mem hx with rfl | ⟨hx, _⟩
            · exact hzn
            · exact a2 x hx, fun x hx => by
            rcases putL_mem hx with rfl | ⟨hx, _⟩
            · exact ⟨y2, y3⟩
            · exact a3 x hx⟩
        obtain ⟨k1, k2, k3⟩ := key l (y - rc) (by omega) (by omega) g4 g6 g7
        have klen := putL_len l z (y - rc)
        walk_at "go"
        cases alike with
        | false =>
          walk_at "go"
          refine ⟨_, putL l z (y - rc), rfl, g1'.upd npd.symm, by rw [upd_ne ndq.symm]; exact b6 q _ g2 npq, upd_same, k1, by omega, k2, k3, by simp⟩
        | true =>
          walk_at "go"
          refine x_putL upd_same (by omega) rfl ?_
          rw [upd_upd, putL_putL]
          obtain ⟨k1, k2, k3⟩ := key l rc (by omega) (by omega) g4 g6 g7
          have klen := putL_len l z rc
          walk_at "go"
          refine ⟨_, putL l z rc, rfl, g1'.upd npd.symm, by rw [upd_ne ndq.symm]; exact b6 q _ g2 npq, upd_same, k1, by omega, k2, k3, fun _ x hx => ?_⟩
          rcases putL_mem hx with rfl | ⟨hx, _⟩
          · rfl
          · exact g8 rfl x hx
    · rintro σ H' ⟨v, l, rfl, g1, g2, g3, g4, g5, g6, g7, g8⟩
      have gl : l.length ≤ 63 := by
        rw [List.length_map] at g5
        omega
      walk_at "go"
      refine ⟨p, d, l, rfl, g1, g3, g4, by omega, g7, fun H6 e6 b6 p6 e60 e61 sd => ?_⟩
      have d6 := b6 d _ g3 npd
      walk_at "go"
      -- three ways to endless, then all go on alike
      refine x_ite (fun hal => ?_) (fun hal => ?_)
      focus
        walk_at "go"
        refine ⟨p, 2, rfl, p6, by decide, by decide, fun H7 y b7 p7 y0 y1 => ?_⟩
        have d7 := b7 d _ d6 npd
        walk_at "go"
        refine x_dec (fun hy => ?_) (fun hy => ?_)
      focus
        have G : GoodW l rc := ⟨g4, gl, g6, g7, by omega, .inl fun x hx => by rw [g8 hal x hx]; omega⟩
        walk_at "go"
        generalize rc = e at G ⊢
      rotate_left
      focus
        have G : GoodW l e6 := ⟨g4, gl, g6, g7, ⟨e60, e61⟩, sd⟩
        walk_at "go"
        generalize e6 = e at G ⊢
      rotate_left
      focus
        have G : GoodW l e6 := ⟨g4, gl, g6, g7, ⟨e60, e61⟩, sd⟩
        walk_at "go"
        have d7 := d6
        have p7 := p6
        clear b6 d6
        generalize e6 = e at G ⊢
        generalize H6 = H7 at d7 p7 ⊢
      rotate_left
      all_goals
        refine x_dict (.inl d7) fun dd hdd => ?_
        walk_at "go"
        intro x1 dx1 nx1 ndx1 ne1
        have hdd1 : (upd (upd (upd H7 dd (.dK (strK V.int l))) dx1 (.own x1)) x1 (.ins C dx1 [])) dd = some (.dK (strK V.int l)) := by
          rw [upd_ne (ne_of_none upd_same nx1), upd_ne (ne_of_none upd_same ndx1), upd_same]
        refine ⟨x1, dd, dx1, e, l, rfl, upd_same, hdd1, G, fun H8 kp8 W1 => ⟨rfl, ?_⟩⟩
        have s8 : L2.Same H7 H8 := same_made (same_new hdd) nx1 ndx1 kp8
        walk_at "go"
        refine ⟨x1, e, l, rfl, W1, G, fun H9 x2 s9 hx2 W2 => ?_⟩
        have d9 := s9 _ _ (s8 _ _ d7)
        have W1' := W1.same s9
        obtain ⟨dx2, t2, l2, hx2a, ht2, hp2', _⟩ := id W2.ex
        obtain ⟨dxa, ta, la, hxa, hta, hpa, _⟩ := id W1'.ex
        walk_at "go"
        refine x_isiOwn I_Wish hx2a kw ?_
        walk_at "go"
        refine x_fld K_Wish N2 hx2a (wF_endless _ _ _) ?_
        walk_at "go"
        refine x_nyes rfl ?_
        walk_at "go"
        refine x_fld K_Wish N3 hx2a (wF_coming _ _ _) ?_
        walk_at "go"
        refine x_isiBool (.bl _) ?_
        walk_at "go"
        refine x_nT ?_
        walk_at "go"
        refine x_prp hx2a ?_
        refine ⟨x2, -e, negL l, rfl, W2, G.neg.nd, by have := G.neg.len; omega, fun H10 D lD s10 hD hD10 hpD => ?_⟩
        have d10 := s10 _ _ d9
        walk_at "go"
        refine x_lenD (.inl hD10) ?_
        walk_at "go"
        refine x_lenD (.inl d10) ?_
        walk_at "go"
        refine x_nyes (by rw [List.length_map, List.length_map, hpD.length_eq]; unfold negL; rw [List.length_map]) ?_
        walk_at "go"
        have nDd : D ≠ d := fun z => by rw [z, d9] at hD; cases hD
        have ndD : ((lD : List (Str × Int)).map (·.1)).Nodup := (List.Perm.nodup_iff (hpD.map _)).mpr G.neg.nd
        have hlD : ∀ z x, (z, x) ∈ l → lD.lookup z = some (-x) := fun z x hm => by
          refine lookup_of ndD (hpD.mem_iff.mpr ?_)
          exact List.mem_map.mpr ⟨(z, x), hm, rfl⟩
        refine x_lock d10 trivial fun od => ?_
        walk_at "go"
        refine lpK (kvs := strK V.int l) (fun i σ H' => ∃ rcs v, σ = [some (.ref a), some (.ref p), some (.bl alike), rcs, some (.ref d), v, some (.int e), some (.ref x1), some (.ref x2), some (.ref D), none] ∧ H' = upd H10 d (.frz od (.dK (strK V.int l)))) upd_same ?_ ?_ ?_ ?_
        focus exact ⟨_, _, rfl, rfl⟩
        focus
          rintro i σ H' _ ⟨_, _, _, rfl⟩
          exact upd_same
        focus
          rintro i k0 v0 σ H' hi ⟨rcs, v, rfl, rfl⟩
          obtain ⟨z, x, rfl, rfl, hlx⟩ := strK_at hi
          have hm := List.mem_of_getElem? hlx
          have hD11 : (upd H10 d (.frz od (.dK (strK V.int l)))) D = some (.dK (strK V.int lD)) := by rw [upd_ne nDd]; exact hD10
          walk_at "go"
          refine x_ninD (l := lD) (.inl hD11) ?_
          rw [hlD z x hm]
          refine ⟨false, rfl, x_F ?_⟩
          walk_at "go"
          refine x_getL (l := lD) (.inl hD11) (hlD z x hm) ?_
          walk_at "go"
          refine x_getL (l := l) (.inr ⟨od, upd_same⟩) (lookup_of G.nd hm) ?_
          walk_at "go"
          refine x_nyes rfl ?_
          walk_at "go"
          exact ⟨_, _, rfl, rfl⟩
        focus
          rintro σ H' ⟨rcs, v, rfl, rfl⟩
          refine ⟨upd_same, ?_⟩
          rw [upd_upd]
          have eback : upd H10 d (.dK (strK V.int l)) = H10 := by
            funext b
            by_cases hb : b = d
            · subst hb; rw [upd_same, d10]
            · rw [upd_ne hb]
          rw [eback]
          walk_at "go"
          refine x_fld K_Wish N3 (s10 _ _ hx2a) (wF_coming _ _ _) ?_
          walk_at "go"
          refine x_lockE d10 trivial fun od2 => ?_
          walk_at "go"
          refine runK upd_same ?_
          intro D2 hD2
          have hD2d : D2 ≠ d := fun z => by rw [z, upd_same] at hD2; cases hD2
          have hD20 : H10 D2 = none := by rw [upd_ne hD2d] at hD2; exact hD2
          refine lcK (kvs := strK V.int l) (fun i H' => L2.Same (upd H10 d (.frz od2 (.dK (strK V.int l)))) H' ∧ H' D2 = some (.lst (((l.take i).map fun q => decide (q.2 ≤ e)).map V.bl))) ?_ ?_ ?_ ?_
          focus exact ⟨same_new hD2, upd_same⟩
          focus exact fun i H' _ h => h.1 d _ upd_same
          focus
            rintro i k0 v0 H' hi ⟨s11, hL⟩
            obtain ⟨z, x, rfl, rfl, hlx⟩ := strK_at hi
            have hm := List.mem_of_getElem? hlx
            have hlt : i < l.length := (List.getElem?_eq_some_iff.mp hlx).1
            walk_at "go"
            refine ⟨rfl, ?_⟩
            walk_at "go"
            refine x_getL (l := l) (.inr ⟨od2, s11 _ _ upd_same⟩) (lookup_of G.nd hm) ?_
            walk_at "go"
            refine ⟨_, hL, sz_lt (by have := G.len; simp; omega), same_upd s11 hD2, ?_⟩
            rw [upd_same, take_succ_get hlx]
            simp
          focus
            rintro H11 ⟨s11, hL⟩
            have eL : (strK V.int l).length = l.length := List.length_map ..
            rw [eL, List.take_length] at hL
            refine ⟨s11 d _ upd_same, ?_⟩
            have s12 : L2.Same H10 (upd H11 d (.dK (strK V.int l))) := fun b o e => by
              by_cases hb : b = d
              · subst hb
                rw [d10] at e
                rw [upd_same, e]
              · rw [upd_ne hb]
                exact s11 b o (by rw [upd_ne hb]; exact e)
            have hL2 : (upd H11 d (.dK (strK V.int l))) D2 = some (.lst ((l.map fun q => decide (q.2 ≤ e)).map V.bl)) := by rw [upd_ne hD2d]; exact hL
            generalize upd H11 d (.dK (strK V.int l)) = H12 at s12 hL2 ⊢
            walk_at "go"
            refine ⟨D2, _, rfl, SqL.of hL2, ?_⟩
            have ecom : comingB (negL l) (-e) = (List.map (fun q : Str × Int => decide (q.2 ≤ e)) l).all id := by
              unfold comingB negL
              rw [List.all_map, List.all_map]
              congr 1
              funext q
              show decide (-e ≤ -q.2) = decide (q.2 ≤ e)
              exact decide_eq_decide.mpr (by omega)
            rw [ecom]
            walk_at "go"
            refine x_nyes rfl ?_
            walk_at "go"
            intro t ht
            have d12 := s12 _ _ d10
            have ndt : d ≠ t := ne_of_none d12 ht
            walk_at "go"
            refine x_listD (d := d) (by rw [upd_ne ndt]; exact d12) fun lp hlp => ?_
            walk_at "go"
            refine x_rev (SqL.of upd_same) fun lr hlr => ?_
            have erev : (List.map (fun kv => kV kv.1) (strK V.int l)).reverse = l.reverse.map fun q => V.str q.1 := by
              rw [List.map_map, ← List.map_reverse]
              rfl
            rw [erev]
            walk_at "go"
            refine lpL (xs := l.reverse.map fun q => V.str q.1) (fun i σ H' => ∃ v, σ = [some (.ref a), some (.ref p), some (.bl alike), rcs, some (.ref d), v, some (.int e), some (.ref x1), some (.ref x2), some (.ref D), some (.ref t)] ∧ L2.Same H12 H' ∧
              H' lr = some (.lst (l.reverse.map fun q => V.str q.1)) ∧ H' t = some (.dK (strK V.int (l.reverse.take i)))) (SqL.of upd_same) ?_ ?_ ?_ ?_
            focus
              have ntlp : t ≠ lp := ne_of_none upd_same hlp
              have ntlr : t ≠ lr := fun z => by rw [← z, upd_ne ntlp, upd_same] at hlr; cases hlr
              refine ⟨_, rfl, fun b o e => ?_, upd_same, ?_⟩
              · have n1 := ne_of_none e ht
                have e1 : (upd H12 t (.dK [])) b = some o := by rw [upd_ne n1]; exact e
                have n2 := ne_of_none e1 hlp
                have e2 : (upd (upd H12 t (.dK [])) lp (.lst (List.map (fun kv => kV kv.1) (strK V.int l)))) b = some o := by rw [upd_ne n2]; exact e1
                rw [upd_ne (ne_of_none e2 hlr)]
                exact e2
              · rw [upd_ne ntlr, upd_ne ntlp, upd_same]
                rfl
            focus exact fun i σ H' _ ⟨_, _, _, h, _⟩ => SqL.of h
            focus
              rintro i x σ H' hx ⟨v, rfl, sA, hA, hB⟩
              rw [List.getElem?_map] at hx
              cases hz : l.reverse[i]? with
              | none => rw [hz] at hx; cases hx
              | some q =>
                rw [hz] at hx
                have ex : V.str q.1 = x := Option.some.inj hx
                subst ex
                have hm : q ∈ l := List.mem_reverse.mp (List.mem_of_getElem? hz)
                have ntlr : lr ≠ t := ne_two hA hB (by intro z; cases z)
                walk_at "go"
                refine x_getL (l := l) (.inl (sA _ _ d12)) (lookup_of G.nd (z := q.1) (x := q.2) hm) ?_
                walk_at "go"
                refine x_putL hB (by have := G.len; simp; omega) rfl ?_
                have ndr : (l.reverse.map (·.1)).Nodup := (G.perm (List.reverse_perm l)).nd
                rw [putL_new]
                · walk_at "go"
                  refine ⟨_, rfl, fun b o e => ?_, by rw [upd_ne ntlr]; exact hA, by rw [upd_same, take_succ_get hz]⟩
                  rw [upd_ne (ne_of_none e ht)]
                  exact sA b o e
                · intro hm
                  obtain ⟨p', hp', e'⟩ := List.mem_map.mp hm
                  obtain ⟨j, hj, he⟩ := List.getElem_of_mem hp'
                  have hj2 : j < i := by simp at hj; omega
                  have h5 : (l.reverse.map (·.1))[j]? = some q.1 := by
                    rw [List.getElem_take] at he
                    rw [List.getElem?_map, List.getElem?_eq_getElem (by simp at hj ⊢; omega), he]
                    exact congrArg some e'
                  have h6 : (l.reverse.map (·.1))[i]? = some q.1 := by rw [List.getElem?_map, hz]; rfl
                  have := L2.nd_ix ndr h5 h6
                  omega
            focus
              rintro σ H13 ⟨v, rfl, s13, _, ht13⟩
              have eL2 : (l.reverse.map fun q => V.str q.1).length = l.reverse.length := List.length_map ..
              rw [eL2, List.take_length] at ht13
              have s913 : L2.Same H9 H13 := (s10.trans s12).trans s13
              walk_at "go"
              refine ⟨x2, -e, negL l, rfl, W2.same s913, G.neg, fun H14 x3 s14 hx3 W3 => ?_⟩
              walk_at "go"
              intro x4 dx4 nx4 ndx4 ne4
              have ht14 := s14 _ _ ht13
              have ht15 : (upd (upd H14 dx4 (.own x4)) x4 (.ins C dx4 [])) t = some (.dK (strK V.int l.reverse)) := by
                rw [upd_ne (ne_of_none ht14 nx4), upd_ne (ne_of_none ht14 ndx4)]
                exact ht14
              refine ⟨x4, t, dx4, e, l.reverse, rfl, upd_same, ht15, G.perm (List.reverse_perm l), fun H15 kp15 W4 => ⟨rfl, ?_⟩⟩
              have s15 : L2.Same H14 H15 := same_made (L2.Same.refl _) nx4 ndx4 kp15
              have enn : negL (negL l) = l := by
                unfold negL
                rw [List.map_map]
                refine (List.map_congr_left fun q _ => ?_).trans (List.map_id _)
                show (q.1, - -q.2) = q
                rw [Int.neg_neg]
              rw [enn, Int.neg_neg] at W3
              have W3' := W3.same s15
              obtain ⟨dx3, t3, l3, hx3a, _⟩ := id W3'.ex
              obtain ⟨dx4', t4, l4, hx4a, _⟩ := id W4.ex
              refine x_eqOwn hx3a hx4a ⟨x3, x4, e, e, l, l.reverse, rfl, W3', W4, (List.reverse_perm l).symm, G.nd, rfl, true, rfl, ?_⟩
              walk_at "go"
              have s915 : L2.Same H9 H15 := (s913.trans s14).trans s15
              refine ⟨x2, -e, negL l, rfl, W2.same s915, G.neg, fun H16 x5 s16 hx5 W5 => ?_⟩
              rw [enn, Int.neg_neg] at W5
              have W1s := W1'.same (s915.trans s16)
              obtain ⟨dx5, t5, l5, hx5a, _⟩ := id W5.ex
              obtain ⟨dx1s, t1s, l1s, hx1s, _⟩ := id W1s.ex
              refine x_eqOwn hx1s hx5a ⟨x1, x5, e, e, l, l, rfl, W1s, W5, List.Perm.refl _, G.nd, rfl, true, rfl, ?_⟩
              walk_at "go"
              refine x_prp hx1s ?_
              refine ⟨x1, e, l, rfl, W1s, G.nd, by have := G.len; omega, fun H17 D5 l6 s17 hD5 hD51 hp6 => ?_⟩
              have d17 := s17 _ _ (s16 _ _ (s915 _ _ d9))
              walk_at "go"
              refine ⟨D5, d, _, _, rfl, rfl, hD51, d17, by rw [List.length_map, List.length_map, hp6.length_eq], fun p hp' => ?_, ?_⟩
              · obtain ⟨x, hx, rfl⟩ := List.mem_map.mp hp'
                refine ⟨?_, rfl⟩
                rw [strK_look, lookup_of G.nd (z := x.1) (x := x.2) (hp6.mem_iff.mp hx)]
                rfl
              walk_at "go"
              refine x_fld K_Wish N2 (s17 _ _ hx1s) (wF_endless _ _ _) ?_
              walk_at "go"
              rw [decide_eq_true rfl]
              exact k _
end
end Law
/-! the head -/
namespace Law
open PySem PySem.Spec PyProof.Rows L2 Ox
def d_law : Oh.Dd := ⟨fun K => He.ga K "law", "law", "law", s_law⟩
def d_pool : Oh.Dd := ⟨fun K => He.ga K "_law_pool", "_law_pool", "_law_pool", s_pool⟩
def d_draw : Oh.Dd := ⟨fun K => He.ga K "_law_draw", "_law_draw", "_law_draw", s_draw⟩
def d_words : Oh.Dd := ⟨fun K => He.ga K "_law_words", "_law_words", "_law_words", s_words⟩
def d_word : Oh.Dd := ⟨fun K => He.ga K "_law_word", "_law_word", "_law_word", s_word⟩
def d_endless : Oh.Dd := ⟨fun K => He.ga K "_law_endless", "_law_endless", "_law_endless", s_endless⟩
def d_mirrored : Oh.Dd := ⟨fun K => He.ga K "mirrored", "mirrored", "mirrored", s_mirrored⟩
def d_Wish_init : Oh.Dd := ⟨fun K => He.ma K (He.ga K "Wish") "__init__", "__init__", "Wish.__init__", s_Wish_init⟩
def d_are_worths : Oh.Dd := ⟨fun K => He.ga K "are_worths", "are_worths", "are_worths", s_are_worths⟩
def d_is_name : Oh.Dd := ⟨fun K => He.ga K "is_name", "is_name", "is_name", s_is_name⟩
def d_is_value : Oh.Dd := ⟨fun K => He.ga K "is_value", "is_value", "is_value", s_is_value⟩
def d_is_integer : Oh.Dd := ⟨fun K => He.ga K "is_integer", "is_integer", "is_integer", s_is_integer⟩
def d_Wish_worths : Oh.Dd := ⟨fun K => Oh.ga2 K "Wish" "worths", "worths", "Wish.worths", s_Wish_worths⟩
def d_Wish_eq : Oh.Dd := ⟨fun K => He.ma K (He.ga K "Wish") "__eq__", "__eq__", "Wish.__eq__", s_Wish_eq⟩
abbrev ds0 : List Oh.Dd := [d_law, d_pool, d_draw, d_words, d_word, d_endless, d_mirrored, d_Wish_init, d_are_worths, d_is_name, d_is_value, d_is_integer, d_Wish_worths, d_Wish_eq]
abbrev dsA : List Oh.Dd := ds0
abbrev fa0 : List (Oh.Frag → Bool) := [Oh.fo (.glo "law"), Oh.fo (.cls "Wish"), iscB "Wish", kitF "Wish" "Wish" true, Oh.fo (.glo "Wish"), Oh.fo (.noat "Wish" "table"), Oh.fo (.noat "Wish" "endless"), Oh.fo (.noat "Wish" "coming"), Oh.fo (.free "isinstance"), Oh.fo (.free "dict"), Oh.fo (.free "bool"), Oh.fo (.free "len"), Oh.fo (.free "all"), Oh.fo (.free "list"), Oh.fo (.free "int"), Oh.fo (.free "min"), Oh.fo (.free "range"), Oh.fo (.glo "_law_pool"), Oh.fo (.glo "_law_draw"), Oh.fo (.free "str"), Oh.fo (.glo "_law_word"), Oh.fo (.glo "_law_words"), Oh.fo (.free "max"), Oh.fo (.glo "_law_endless"), Oh.fo (.free "sorted"), Oh.fo (.glo "is_name"), Oh.fo (.glo "is_integer"), Oh.fo (.glo "is_value"), Oh.fo (.glo "are_worths"), Oh.fo (.mkr "Wish")]
abbrev fa1 : List (Oh.Frag → Bool) := [Oh.fo (.glo "mirrored"), Oh.propB "Wish" "worths", Oh.fo (.meth "Wish" "__eq__")]
abbrev faA : List (Oh.Frag → Bool) := fa0 ++ fa1
abbrev lo0 : List Str := ["is_integer", "is_name", "OwnError", "BadWish", "is_value", "are_worths", "Wish", "mirrored", "_law_pool", "_law_draw", "_law_word", "_law_words", "_law_endless"]
abbrev loA : List Str := lo0
abbrev Rw : PySem.W.OpenRow := PySem.W.OpenLaw.row PySem.Challenge.rw_ownslips_k08_mirrored_wishes
abbrev hk : PySem.W.Hook := Oh.hook 18 faA dsA
def ob (s : PySem.W.SharedT) : Oh.Ob := Oh.obT 18 faA dsA s
theorem ob_eq (s : PySem.W.SharedT) : ob s = hk.obs s.abs := Oh.obT_eq s
theorem run (w : World) : HandSHeadRun.RunEq Rw (PySem.W.view Rw.prog [17]) hk ob 4000 loA w := by
  intro os
  kernel_rfl
theorem facts {P : Program} {w : World} {K : PySem.W.Frag} {h : Heap} {mg : Str → Option Value} {f : Addr} (X : K.In h) (G : h.Ns mainGlobals mg) (hfa : mg ("law" : Str) = some (.ref f)) (c : Oh.Told faA dsA K) :
    ∃ fd : FuncData, (∀ (s : Shared) (v : Value), BindsTo s fd ⟨[v], []⟩ [("_law_script", v)]) ∧ ∀ base : Heap, K.In base → base.Ns mainGlobals mg → FnOk P w K mg base CX0 8 f fd ["_law_script"] ((spLaw K)) := by
  obtain ⟨_, F_law⟩ := c.def_ 0 (d := d_law) rfl
  have e := hfa.symm.trans (He.glo_ok X G (c.fact 0 (f := Oh.fo (.glo "law")) rfl))
  cases e
  have b := Oh.bindsA (ps := ["_law_script"]) F_law fun _ _ _ _ _ _ us hl => match us, hl with | [_], _ => rfl
  refine ⟨_, fun s v => b s [v] rfl, fun base _ _ => ?_⟩
  have x1 : Cls K (He.ga K "Wish") := He.cls_ok (c.fact 1 (f := Oh.fo (.cls "Wish")) rfl)
  have x2 : Isc K (He.ga K "Wish") := iscB_ok (c.fact 2 (f := iscB "Wish") rfl)
  have x3 : PySem.W.kitOne K (.ref (He.ga K "Wish")) (.ref (He.ga K "Wish")) = some true := kitF_ok (c.fact 3 (f := kitF "Wish" "Wish" true) rfl)
  have x4 : mg "Wish" = some (.ref (He.ga K "Wish")) := He.glo_ok X G (c.fact 4 (f := Oh.fo (.glo "Wish")) rfl)
  have x5 : NoAttr K (He.ga K "Wish") "table" := He.noat_ok (c.fact 5 (f := Oh.fo (.noat "Wish" "table")) rfl)
  have x6 : NoAttr K (He.ga K "Wish") "endless" := He.noat_ok (c.fact 6 (f := Oh.fo (.noat "Wish" "endless")) rfl)
  have x7 : NoAttr K (He.ga K "Wish") "coming" := He.noat_ok (c.fact 7 (f := Oh.fo (.noat "Wish" "coming")) rfl)
  have x8 : mg "isinstance" = none := He.free_ok X G (c.fact 8 (f := Oh.fo (.free "isinstance")) rfl)
  have x9 : mg "dict" = none := He.free_ok X G (c.fact 9 (f := Oh.fo (.free "dict")) rfl)
  have x10 : mg "bool" = none := He.free_ok X G (c.fact 10 (f := Oh.fo (.free "bool")) rfl)
  have x11 : mg "len" = none := He.free_ok X G (c.fact 11 (f := Oh.fo (.free "len")) rfl)
  have x12 : mg "all" = none := He.free_ok X G (c.fact 12 (f := Oh.fo (.free "all")) rfl)
  have x13 : mg "list" = none := He.free_ok X G (c.fact 13 (f := Oh.fo (.free "list")) rfl)
  obtain ⟨_, F_pool⟩ := c.def_ 1 (d := d_pool) rfl
  have x14 : mg "int" = none := He.free_ok X G (c.fact 14 (f := Oh.fo (.free "int")) rfl)
  have x15 : mg "min" = none := He.free_ok X G (c.fact 15 (f := Oh.fo (.free "min")) rfl)
  have x16 : mg "range" = none := He.free_ok X G (c.fact 16 (f := Oh.fo (.free "range")) rfl)
  have x17 : Cal P w K mg base 1 "_law_pool" ["_law_script"] (spPool K) := ⟨_, _, ok_pool F_pool x11 x14 x15 x16, He.glo_ok X G (c.fact 17 (f := Oh.fo (.glo "_law_pool")) rfl), F_pool.kp, bd_pool F_pool⟩
  obtain ⟨_, F_draw⟩ := c.def_ 2 (d := d_draw) rfl
  have x18 : Cal P w K mg base 1 "_law_draw" ["_law_pool_here", "_law_many"] spDraw := ⟨_, _, ok_draw F_draw x11 x14, He.glo_ok X G (c.fact 18 (f := Oh.fo (.glo "_law_draw")) rfl), F_draw.kp, bd_draw F_draw⟩
  obtain ⟨_, F_words⟩ := c.def_ 3 (d := d_words) rfl
  have x19 : mg "str" = none := He.free_ok X G (c.fact 19 (f := Oh.fo (.free "str")) rfl)
  obtain ⟨_, F_word⟩ := c.def_ 4 (d := d_word) rfl
  have x20 : Cal P w K mg base 2 "_law_word" ["_law_pool_here", "_law_longest"] spWord := ⟨_, _, ok_word F_word x16 x18, He.glo_ok X G (c.fact 20 (f := Oh.fo (.glo "_law_word")) rfl), F_word.kp, bd_word F_word⟩
  have x21 : Cal P w K mg base 3 "_law_words" ["_law_pool_here", "_law_many"] spWords := ⟨_, _, ok_words F_words x16 x19 x18 x20, He.glo_ok X G (c.fact 21 (f := Oh.fo (.glo "_law_words")) rfl), F_words.kp, bd_words F_words⟩
  obtain ⟨_, F_endless⟩ := c.def_ 5 (d := d_endless) rfl
  have x22 : mg "max" = none := He.free_ok X G (c.fact 22 (f := Oh.fo (.free "max")) rfl)
  have x23 : Cal P w K mg base 2 "_law_endless" ["_law_pool_here", "_law_wanted"] spEndless := ⟨_, _, ok_endless F_endless x11 x22 x15 x18, He.glo_ok X G (c.fact 23 (f := Oh.fo (.glo "_law_endless")) rfl), F_endless.kp, bd_endless F_endless⟩
  obtain ⟨_, F_mirrored⟩ := c.def_ 6 (d := d_mirrored) rfl
  obtain ⟨_, F_Wish_init⟩ := c.def_ 7 (d := d_Wish_init) rfl
  have x24 : mg "sorted" = none := He.free_ok X G (c.fact 24 (f := Oh.fo (.free "sorted")) rfl)
  obtain ⟨_, F_are_worths⟩ := c.def_ 8 (d := d_are_worths) rfl
  obtain ⟨_, F_is_name⟩ := c.def_ 9 (d := d_is_name) rfl
  have x25 : Cal P w K mg base 1 "is_name" ["thing"] (spIsName K) := ⟨_, _, ok_is_name F_is_name x19 x11 x8, He.glo_ok X G (c.fact 25 (f := Oh.fo (.glo "is_name")) rfl), F_is_name.kp, bd_is_name F_is_name⟩
  obtain ⟨_, F_is_value⟩ := c.def_ 10 (d := d_is_value) rfl
  obtain ⟨_, F_is_integer⟩ := c.def_ 11 (d := d_is_integer) rfl
  have x26 : Cal P w K mg base 1 "is_integer" ["thing"] (spIsInt K) := ⟨_, _, ok_is_integer F_is_integer x14 x10 x8, He.glo_ok X G (c.fact 26 (f := Oh.fo (.glo "is_integer")) rfl), F_is_integer.kp, bd_is_integer F_is_integer⟩
  have x27 : Cal P w K mg base 2 "is_value" ["thing"] (spIsValue K) := ⟨_, _, ok_is_value F_is_value x26, He.glo_ok X G (c.fact 27 (f := Oh.fo (.glo "is_value")) rfl), F_is_value.kp, bd_is_value F_is_value⟩
  have x28 : Cal P w K mg base 3 "are_worths" ["thing"] (spAreWorths K) := ⟨_, _, ok_are_worths F_are_worths x9 x11 x8 x25 x27, He.glo_ok X G (c.fact 28 (f := Oh.fo (.glo "are_worths")) rfl), F_are_worths.kp, bd_are_worths F_are_worths⟩
  have x29 : Mkc P w K mg base (He.ga K "Wish") 4 "Wish" ["self", "worths", "endless"] (spWishInit (He.ga K "Wish")) := ⟨_, _, He.mkr_ok (c.fact 29 (f := Oh.fo (.mkr "Wish")) rfl), ok_Wish_init F_Wish_init x1 x5 x6 x7 x13 x12 x24 x28 x27, He.glo_ok X G (c.fact 4 (f := Oh.fo (.glo "Wish")) rfl), bd_Wish_init F_Wish_init⟩
  have x30 : Cal P w K mg base 6 "mirrored" ["wish"] (spMirrored (He.ga K "Wish")) := ⟨_, _, ok_mirrored F_mirrored x1 x5 x6 x29, He.glo_ok X G (c.fact 30 (f := Oh.fo (.glo "mirrored")) rfl), F_mirrored.kp, bd_mirrored F_mirrored⟩
  obtain ⟨_, F_Wish_worths⟩ := c.def_ 12 (d := d_Wish_worths) rfl
  have x31 : Prp P w K mg base (He.ga K "Wish") 1 "worths" (spWorths (He.ga K "Wish")) := ⟨_, _, _, Oh.propB_ok (c.fact 31 (f := Oh.propB "Wish" "worths") rfl), ok_Wish_worths F_Wish_worths x1 x5, bd_Wish_worths F_Wish_worths⟩
  obtain ⟨_, F_Wish_eq⟩ := c.def_ 13 (d := d_Wish_eq) rfl
  have x32 : Met P w K mg base (He.ga K "Wish") 1 "__eq__" ["self", "other"] (spWishEq (He.ga K "Wish")) := ⟨_, _, He.meth_ok (c.fact 32 (f := Oh.fo (.meth "Wish" "__eq__")) rfl), ok_Wish_eq F_Wish_eq x1 x2 x3 x4 x5 x6 x8, bd_Wish_eq F_Wish_eq⟩
  exact ok_law F_law x1 x2 x3 x4 x5 x6 x7 x8 x9 x10 x11 x12 x13 x17 x18 x21 x23 x30 x29 x31 x32
end Law
open PySem PySem.W PySem.Calls PyProof.Rows
theorem PySem.Challenge.cw_ownslips_k08_mirrored_wishes_holds : PySem.Challenge.rw_ownslips_k08_mirrored_wishes.Holds := by
  w_on; o_law
  refine HandSHeadRun.head_any (r := OpenLaw.row PySem.Challenge.rw_ownslips_k08_mirrored_wishes) (q := view (PySem.W.OpenLaw.row PySem.Challenge.rw_ownslips_k08_mirrored_wishes).prog [17]) (H := Law.hk) (ob := Law.ob) (M := 4000) (loose := Law.loA) (d := HandSHeadRun.topDef (PySem.W.OpenLaw.row PySem.Challenge.rw_ownslips_k08_mirrored_wishes).prog 17) (kwd := []) Law.ob_eq
    (by kernel_rfl) (fun s => by kernel_rfl) Law.run (by kernel_rfl) (by kernel_rfl) (by kernel_rfl) (by rfl) (by first | assumption | decide +kernel) (by decide +kernel) ⟨rfl, rfl, rfl, rfl, rfl, by decide +kernel⟩ ?hw ?hc
  case hw => w_witness2
  case hc =>
    refine L2.walk_ofE (l := PySem.Challenge.rw_ownslips_k08_mirrored_wishes) (n := 63) (k := 8) (x := "_law_script") (CX := L2.CX0) rfl (by decide) (by kernel_rfl) ⟨rfl, by decide, by decide⟩ ?F (fun _ _ _ _ z => z)
    intro w mg fa h Y G hmg0
    obtain ⟨K, KX, c⟩ := Y
    have hmg : mg ("law" : PySem.Str) = some (.ref fa) := by
      have e : (HandSHeadRun.topDef (PySem.W.OpenLaw.row PySem.Challenge.rw_ownslips_k08_mirrored_wishes).prog 17).name = ("law" : PySem.Str) := by kernel_rfl
      rw [← e]
      exact hmg0
    obtain ⟨fd, hb, hF⟩ := Law.facts (P := (PySem.Challenge.rw_ownslips_k08_mirrored_wishes).prog) (w := w) KX G hmg c
    exact ⟨K, fd, Law.spLaw K, KX, hb, fun H a ns hl _ hS => ⟨a, ns, rfl, hS, hl, fun _ => rfl⟩, hF⟩
